/-
  Part of the proofs of laws over the given program: contracts of its functions (what each computes, of which input), and the tables and data that they read.
  Conditions: none beyond the theorems' own hypotheses.
-/
import Derived.Test.YtdembmaldllmkaaGreatDoorPA5
import Derived.Deep.Cut
import Derived.Test.YtdembmaldllmkaaGreatDoorCards
import Derived.Test.YtdembmaldllmkaaGreatDoorTie
import Derived.ProofKit
import Derived.Lib.LaidU8
import Derived.KernelRfl
import Derived.Lay
import Derived.Carry
import Derived.SevenTiedAt
set_option linter.unusedVariables false
set_option linter.unusedSimpArgs false
set_option maxHeartbeats 32000000
set_option maxRecDepth 100000
namespace Go.Proofs.YtdembmaldllmkaaGreatDoor
section
open Go.RowKit
theorem run_any {w:World} {p:Src} {args:List Int} {secs:List (List Int)} {shared:List Int} (hWt:wtFs p.funcs≤100000) (v sv0 wv:Value) (f:Int) (hI:kn w p v) (hg:Glob w) (hA:WSl w sv0 args) (huA:∀ x∈args,U64 x) (hW:WorldIs w secs shared wv) (huS:∀ l∈secs,∀ x∈l,U64 x) (huH:∀ x∈shared,U64 x) (hlen:(runS p f args secs shared).2.opened.length≤1000000) :
  Calls Tryz.prog 13 #[v,.int .i64 f,sv0,wv] w (RunRet w (runS p f args secs shared)):=by
 have hz:∀ w:World,(zeroValue 37).run Tryz.prog w=.ok (.agg #[.int .u64 0,.slice none 0 0,.slice none 0 0,.slice none 0 0]) w:=fun w=>by kernel_rfl
 have hMy:=fun (w1:World) (hb:Below w.heap.size w w1)=>may_any (p:=p) (args:=args) (secs:=secs) (shared:=shared) hWt v sv0 wv f w1 hb hI (hg.below hb) hA huA hW
 have hI0:=hI
 obtain ⟨a0,c0,pa,pc,rfl,hsec,hfun⟩:=hI
 obtain ⟨wa,wc,a1,c1,rfl,hws,hsh⟩:=hW
 obtain ⟨aa,ac,rfl,hcA,hlA,hnA,hrA⟩:=hA
 have hBl:Below w.heap.size w (((w.alloc (.cells #[.slice a0 p.secrets.length c0,.slice pa p.funcs.length pc] 25)).alloc (.cells #[.slice wa secs.length wc,.slice a1 shared.length c1] 29)).alloc (.cells #[.int .u64 0,.slice none 0 0,.slice none 0 0,.slice none 0 0] 37)):=(((wu _ _).alloc (wo _) _).alloc (by (try simp)<;>omega) _).alloc (by (try simp)<;>omega) _
 have h4:(((w.alloc (.cells #[.slice a0 p.secrets.length c0,.slice pa p.funcs.length pc] 25)).alloc (.cells #[.slice wa secs.length wc,.slice a1 shared.length c1] 29)).alloc (.cells #[.int .u64 0,.slice none 0 0,.slice none 0 0,.slice none 0 0] 37)).heap[w.heap.size]?=some (.cells #[.slice a0 p.secrets.length c0,.slice pa p.funcs.length pc] 25 (0,0)):=by
  rw [heap_alloc_old _ _ (by simp;omega),heap_alloc_old _ _ (by simp)]
  exact heap_alloc_new w _
 have h5:(((w.alloc (.cells #[.slice a0 p.secrets.length c0,.slice pa p.funcs.length pc] 25)).alloc (.cells #[.slice wa secs.length wc,.slice a1 shared.length c1] 29)).alloc (.cells #[.int .u64 0,.slice none 0 0,.slice none 0 0,.slice none 0 0] 37)).heap[w.heap.size+1]?=some (.cells #[.slice wa secs.length wc,.slice a1 shared.length c1] 29 (0,0)):=by
  rw [heap_alloc_old _ _ (by simp)]
  exact heap_alloc2_new w _ _
 have h8:(((w.alloc (.cells #[.slice a0 p.secrets.length c0,.slice pa p.funcs.length pc] 25)).alloc (.cells #[.slice wa secs.length wc,.slice a1 shared.length c1] 29)).alloc (.cells #[.int .u64 0,.slice none 0 0,.slice none 0 0,.slice none 0 0] 37)).heap[w.heap.size+2]?=some (.cells #[.int .u64 0,.slice none 0 0,.slice none 0 0,.slice none 0 0] 37 (0,0)):=by
  have:=heap_alloc_new ((w.alloc (.cells #[.slice a0 p.secrets.length c0,.slice pa p.funcs.length pc] 25)).alloc (.cells #[.slice wa secs.length wc,.slice a1 shared.length c1] 29)) (.cells #[.int .u64 0,.slice none 0 0,.slice none 0 0,.slice none 0 0] 37)
  simpa using this
 have h0:(((w.alloc (.cells #[.slice a0 p.secrets.length c0,.slice pa p.funcs.length pc] 25)).alloc (.cells #[.slice wa secs.length wc,.slice a1 shared.length c1] 29)).alloc (.cells #[.int .u64 0,.slice none 0 0,.slice none 0 0,.slice none 0 0] 37)).cell? ⟨w.heap.size,0,none⟩=some (.slice a0 p.secrets.length c0):=cell_of_row _ _ 0 _ _ _ h4
 have h1:(((w.alloc (.cells #[.slice a0 p.secrets.length c0,.slice pa p.funcs.length pc] 25)).alloc (.cells #[.slice wa secs.length wc,.slice a1 shared.length c1] 29)).alloc (.cells #[.int .u64 0,.slice none 0 0,.slice none 0 0,.slice none 0 0] 37)).cell? ⟨w.heap.size,1,none⟩=some (.slice pa p.funcs.length pc):=cell_of_row _ _ 1 _ _ _ h4
 have h2:(((w.alloc (.cells #[.slice a0 p.secrets.length c0,.slice pa p.funcs.length pc] 25)).alloc (.cells #[.slice wa secs.length wc,.slice a1 shared.length c1] 29)).alloc (.cells #[.int .u64 0,.slice none 0 0,.slice none 0 0,.slice none 0 0] 37)).cell? ⟨w.heap.size+1,0,none⟩=some (.slice wa secs.length wc):=cell_of_row _ _ 0 _ _ _ h5
 have h3:(((w.alloc (.cells #[.slice a0 p.secrets.length c0,.slice pa p.funcs.length pc] 25)).alloc (.cells #[.slice wa secs.length wc,.slice a1 shared.length c1] 29)).alloc (.cells #[.int .u64 0,.slice none 0 0,.slice none 0 0,.slice none 0 0] 37)).cell? ⟨w.heap.size+1,1,none⟩=some (.slice a1 shared.length c1):=cell_of_row _ _ 1 _ _ _ h5
 have hsz:(((w.alloc (.cells #[.slice a0 p.secrets.length c0,.slice pa p.funcs.length pc] 25)).alloc (.cells #[.slice wa secs.length wc,.slice a1 shared.length c1] 29)).alloc (.cells #[.int .u64 0,.slice none 0 0,.slice none 0 0,.slice none 0 0] 37)).heap.size=w.heap.size+3:=by simp
 have HSz:=k8 hsz
 have HMy:=k8 (hMy (((w.alloc (.cells #[.slice a0 p.secrets.length c0,.slice pa p.funcs.length pc] 25)).alloc (.cells #[.slice wa secs.length wc,.slice a1 shared.length c1] 29)).alloc (.cells #[.int .u64 0,.slice none 0 0,.slice none 0 0,.slice none 0 0] 37)) hBl)
 have HP0w:=k8 h0
 have HP1w:=k8 h1
 have HW0w:=k8 h2
 have HW1w:=k8 h3
 have H8:=k8 h8
 have H4:=k8 h4
 have HBl:=k8 hBl
 have HSec:=k8 hsec
 have HFun:=k8 hfun
 have HWs:=k8 hws
 have HSh:=k8 hsh
 have HRA:=k8 hrA
 have HUA:=k8 huA
 have HUS:=k8 huS
 have HUH:=k8 huH
 have HI0:=k8 hI0
 have HWt:=k8 hWt
 obtain ⟨R,hR⟩:∃ R,runS p f args secs shared=R:=⟨_,rfl⟩
 rw [hR] at hlen ⊢
 have HR:=k8 hR
 have HLen:=k8 hlen
 obtain ⟨M,hM⟩:∃ M,mayS p f args secs shared=M:=⟨_,rfl⟩
 rw [hM] at HMy
 have HM:=k8 hM
 clear h5 hMy hI0 hsec hfun hws hsh hrA huA huS huH hWt hR hlen hM hg h0 h1 h2 h3 h8 h4 hBl hnA hsz
 go_enter Tryz.func13,Tryz.ntmps13
 go_wp2_with fail
 refine HMy.out.mono ?_
 rintro e w1 ⟨rfl,hB1⟩
 have HB1:=k8 hB1
 have H81:=k8 (ji hB1 H8.out)
 have hN1:w.heap.size+3≤w1.heap.size:=by have:=hB1.size;have:=HSz.out;omega
 clear hB1 HMy
 cases M with
 | false=>
  have hR0:R=(1,⟨0,[],[],[]⟩):=by rw [← HR.out];unfold runS;rw [if_pos HM.out]
  subst hR0
  go_wp2_with ((refine wpList_store_row rfl 37 _ _ rfl (w.heap.size+2) zeroOut rfl rfl 37 _ H81.out (by kernel_rfl) rfl (by kernel_rfl) ?_))
  refine bodyPost_ret (results_cell_tmp_row (P:=Tryz.prog) (p:=8) (u:=9) (ty:=37) rfl _ _ (w.heap.size+2) 37 (zeroOut) (0,0) _ rfl (Go.setRow_heap w1 _ _ _ _ _ H81.out) Tryz.underlying37 rfl (by kernel_rfl) _ rfl) rfl ?_
  exact ⟨below_setRow (HBl.out.trans (HB1.out.mono HBl.out.size)) (by omega) _,_,rfl,outIs_zero _,⟨by decide,by decide⟩,fun l h=>(by cases h),fun x h=>(by cases h)⟩
 | true=>
  obtain ⟨hck,fn,rfl,g,hgf,hla,hsl,h512,hfit⟩:=mayS_true HM.out
  have hRt:R=(0,outS p secs.length (bodyS p fn g args secs shared)):=by
   rw [← HR.out];unfold runS;rw [if_neg (by rw [HM.out];simp),Int.toNat_natCast,hgf]
  subst hRt
  have hrt:kr p=0:=by
   rw [checkS_eq] at hck
   by_cases hr:kr p=0
   ·exact hr
   ·rw [if_pos hr] at hck;exact absurd hck hr
  have HFine:=k8 (srcFine_of hrt)
  have HRf:=k8 (runFine_of hrt)
  have HShl:=k8 h512
  have HLa:=k8 hla
  have HSl:=k8 hsl
  have HFit:=k8 hfit
  have HG:=k8 hgf
  have HB01:=k8 (HBl.out.trans (HB1.out.mono HBl.out.size))
  have HP0:=k8 (jb HB1.out HP0w.out)
  have HP1:=k8 (jb HB1.out HP1w.out)
  have HW0:=k8 (jb HB1.out HW0w.out)
  have HW1:=k8 (jb HB1.out HW1w.out)
  clear HP0w HP1w HW0w HW1w
  have H41:=k8 (ji HB1.out H4.out)
  have HSh1:=k8 (HSh.out.below HB01.out)
  clear HSh
  obtain ⟨Y,hY⟩:∃ Y,bodyS p fn g args secs shared=Y:=⟨_,rfl⟩
  rw [hY] at HLen ⊢
  have HY:=k8 hY
  clear hck hrt h512 hla hsl hfit hgf hY HR HM H4 H8
  go_wp2_with fail
  refine je zi [.is (.agg #[.slice a0 p.secrets.length c0,.slice pa p.funcs.length pc]),mpMap w1.heap.size,.is (.pointer (some ⟨w.heap.size+1,1,none⟩)),.is (.slice a1 shared.length c1),mpOwnW w1.heap.size shared] (by kernel_rfl) 5 (by decide) (by kernel_rfl) _ rfl ?_ ?_
  ·refine ⟨?_,?_,?_,?_,?_,trivial⟩
   ·refine jc rfl rfl rfl fun x1 y hB hF hD=>?_
    have e4:slot x1 4=.pointer (some ⟨w.heap.size,0,none⟩):=hF.at 4 rfl
    have hc0:y.cell? ⟨w.heap.size,0,none⟩=some (.slice a0 p.secrets.length c0):=jb hB HP0.out
    have hc1:y.cell? ⟨w.heap.size,1,none⟩=some (.slice pa p.funcs.length pc):=jb hB HP1.out
    clear hB hF
    simp only [execOp,ja,e4]
    first|rfl|(go_simp;try rfl)
   ·exact stepB_map rfl rfl rfl rfl (wo _)
   ·refine jc rfl rfl rfl fun x1 y hB hF hD=>?_
    have e7:slot x1 7=.pointer (some ⟨w.heap.size+1,0,none⟩):=hF.at 7 rfl
    clear hB hF
    simp only [execOp,ja,e7]
    first|rfl|(go_simp;try rfl)
   ·refine jc rfl rfl rfl fun x1 y hB hF hD=>?_
    obtain ⟨d0,-⟩:=hD
    have e28:slot x1 28=.pointer (some ⟨w.heap.size+1,1,none⟩):=d0 rfl
    have hc:y.cell? ⟨w.heap.size+1,1,none⟩=some (.slice a1 shared.length c1):=jb hB HW1.out
    clear hB hF
    simp only [execOp,ja,e28]
    first|rfl|(go_simp;try rfl)
   ·refine jn (f:=24) rfl rfl fun x1 y hB hF hD=>⟨#[.slice a1 shared.length c1],?_,?_⟩
    ·obtain ⟨d0,-⟩:=hD
     have e29:slot x1 29=.slice a1 shared.length c1:=d0 rfl
     have g29:=jh e29
     clear hB hF e29
     simp only [execOp]
     simp [go_sem,g29]
    ·refine (clone_words _ shared y (HSh1.out.below hB) (by have:=HShl.out;omega)).mono ?_
     rintro e w' ⟨hb,v',rfl,ho⟩
     exact ⟨hb,.inl ⟨v',rfl,(yk ho hB.size:w'.ownsRow w1.heap.size 35 1 v' shared.length (shared.map (Value.int .u64)))⟩⟩
  ·intro x1 y hB hF hP
   obtain ⟨p0,p1,p2,p3,p4,-⟩:=hP
   have hx:=jj hF [(26,.agg #[.slice a0 p.secrets.length c0,.slice pa p.funcs.length pc]),(27,slot x1 27),(28,.pointer (some ⟨w.heap.size+1,1,none⟩)),(29,.slice a1 shared.length c1),(30,slot x1 30)] rfl ⟨p0,rfl,p2,p3,rfl,trivial⟩
   obtain ⟨sb,esb,hsb1,hsbm⟩:=p1
   have hown:y.ownsRow w1.heap.size 35 1 (slot x1 30) shared.length (shared.map (Value.int .u64)):=p4
   obtain ⟨sa,sc,esv,hsc,hsn,hss⟩:=own_shape hown
   rw [esv] at hown hx
   have esb2:slot x1 27=.map (some sb):=esb
   rw [esb2] at hx
   have hsbl:sb<y.heap.size:=(wl.1 hsbm).1
   obtain ⟨bs,hbs,hbs0,hbs2,hbsl,hbsu,hbsb⟩:∃ bs,(shared≠[]→sa=some ⟨bs,0,none⟩)∧bs≠w.heap.size∧bs≠w.heap.size+2∧w.heap.size≤bs∧bs<y.heap.size∧bs≠sb:=by
    by_cases hs:shared=[]
    ·exact ⟨w.heap.size+1,fun h=>absurd hs h,by omega,by omega,by omega,by have:=hB.size;omega,by omega⟩
    ·obtain ⟨b,e,h1,h2,cur,h3⟩:=hss hs
     exact ⟨b,fun _=>e,by omega,by omega,by omega,h2,fun h=>by subst h;rw [hsbm] at h3;simp at h3⟩
   have q0:=jb hB HP0.out
   have q1:=jb hB HP1.out
   have q2:=jb hB HW0.out
   have hBa:=(wu y.heap.size y).alloc (wo _) (.cells #[.slice a0 p.secrets.length c0,.slice pa p.funcs.length pc,.map (some sb),.slice sa shared.length sc,.slice none 0 0] 74)
   have HP0c:=k8 (jb hBa q0)
   have HP1c:=k8 (jb hBa q1)
   have HW0c:=k8 (jb hBa q2)
   clear HP0 HP1 HW0 HW1
   have H4:=k8 (ji hBa (ji hB H41.out))
   have H8:=k8 (ji hBa (ji hB H81.out))
   have HO0:=k8 (show (y.alloc (.cells #[.slice a0 p.secrets.length c0,.slice pa p.funcs.length pc,.map (some sb),.slice sa shared.length sc,.slice none 0 0] 74)).cell? ⟨y.heap.size,0,none⟩=some (.slice a0 p.secrets.length c0) by simp)
   have HO1:=k8 (show (y.alloc (.cells #[.slice a0 p.secrets.length c0,.slice pa p.funcs.length pc,.map (some sb),.slice sa shared.length sc,.slice none 0 0] 74)).cell? ⟨y.heap.size,1,none⟩=some (.slice pa p.funcs.length pc) by simp)
   have HO2:=k8 (show (y.alloc (.cells #[.slice a0 p.secrets.length c0,.slice pa p.funcs.length pc,.map (some sb),.slice sa shared.length sc,.slice none 0 0] 74)).cell? ⟨y.heap.size,2,none⟩=some (.map (some sb)) by simp)
   have HO3:=k8 (show (y.alloc (.cells #[.slice a0 p.secrets.length c0,.slice pa p.funcs.length pc,.map (some sb),.slice sa shared.length sc,.slice none 0 0] 74)).cell? ⟨y.heap.size,3,none⟩=some (.slice sa shared.length sc) by simp)
   have HO4:=k8 (show (y.alloc (.cells #[.slice a0 p.secrets.length c0,.slice pa p.funcs.length pc,.map (some sb),.slice sa shared.length sc,.slice none 0 0] 74)).cell? ⟨y.heap.size,4,none⟩=some (.slice none 0 0) by simp)
   have HO5:=k8 (frozen_of_row (y.alloc (.cells #[.slice a0 p.secrets.length c0,.slice pa p.funcs.length pc,.map (some sb),.slice sa shared.length sc,.slice none 0 0] 74)) y.heap.size 4 _ _ (heap_alloc_new y _))
   have HSb:=k8 (show j5 Value.string (y.alloc (.cells #[.slice a0 p.secrets.length c0,.slice pa p.funcs.length pc,.map (some sb),.slice sa shared.length sc,.slice none 0 0] 74)) sb [] from ⟨#[],0,ji hBa hsbm,rfl⟩)
   have HOw:=k8 (jv hown hBa)
   have HB3:=k8 (HB01.out.trans ((hB.trans (hBa.mono hB.size)).mono HB01.out.size))
   have HS3:=k8 (show (y.alloc (.cells #[.slice a0 p.secrets.length c0,.slice pa p.funcs.length pc,.map (some sb),.slice sa shared.length sc,.slice none 0 0] 74)).heap.size=y.heap.size+1 by simp)
   have hyN:w.heap.size+3≤y.heap.size:=by have:=hB.size;omega
   have hyP:w.heap.size<y.heap.size:=by omega
   have HSc:=k8 hsc
   have HSn:=k8 hsn
   have HBs:=k8 hbs
   clear hB hF p0 p2 p3 p4 esb esb2 esv hown hss hsbm hBa hsc hsn hbs HSh1
   subst hx
   simp only [puts,Act.put,we,wg,wi,wj,wk]
   go_wp2_with fail
   clear q0 q1 q2 hyP
   generalize hgw3:y.alloc (.cells #[.slice a0 p.secrets.length c0,.slice pa p.funcs.length pc,.map (some sb),.slice sa shared.length sc,.slice none 0 0] 74)=W3 at *
   clear hgw3
   generalize hwb:y.heap.size=wb at *
   clear hwb
   go_loopw [36] (fun iv wr=>∃ (k:Nat) (rs:List (Nat×Nat)),k≤p.secrets.length∧iv=.int .i64 k∧Kept [sb] W3 wr∧j5 Value.string wr sb (lvS (p.secrets.take k) rs)∧RowsAt wr W3.heap.size (secs.take k) rs) (fun iv _=>p.secrets.length - (intOf iv).toNat)
   case atStart=>exact ⟨0,[],gj _,rfl,Kept.refl _ _,HSb.out,RowsAt.nil _ _⟩
   case round=>
    obtain ⟨k,rs,hk,rfl,hK,hM,hRw⟩:=hrel
    have hS3:=HS3.out
    by_cases hlt:k<p.secrets.length
    ·have hltx:k<secs.length:=by have:=(sameLens_at HSl.out).1;omega
     have hal:=(sameLens_at HSl.out).2 k p.secrets[k] secs[k] (by simp [hlt]) (by simp [hltx])
     have har:=HFine.out.arrs _ (List.getElem_mem hlt)
     obtain ⟨_,_,he,hcs,hls,hrs⟩:=HSec.out
     simp only [Value.slice.injEq] at he
     obtain ⟨rfl,-,rfl⟩:=he
     obtain ⟨sb0,so0,rfl,hros⟩:=hrs (by intro h;rw [h] at hlt;simp at hlt)
     obtain ⟨_,_,he,hcw,hlw,hrw⟩:=HWs.out
     simp only [Value.slice.injEq] at he
     obtain ⟨rfl,-,rfl⟩:=he
     obtain ⟨wab,wao,rfl,hrow⟩:=hrw (by intro h;rw [h] at hltx;simp at hltx)
     have hx:=hros k p.secrets[k] (by simp [hlt])
     obtain ⟨uk,huk,hul⟩:=hrow k secs[k] (by simp [hltx])
     rw [Nat.mul_one] at huk
     have hBr:Below w.heap.size w wr:=HB3.out.trans (hK.below (B:=w.heap.size) HB3.out.size (by simp;omega))
     have q0:=jb hBr hx.1.1
     have q1:=jb hBr hx.2.1
     have hbx:=k9 wr _ q0
     have hbA:=(wu wr.heap.size wr).alloc (wo _) (.cells #[.string p.secrets[k].name,.int .i64 p.secrets[k].len] 62)
     have hBW:=hBr.trans (hbA.mono hBr.size)
     have HX0:=k8 (show (wr.alloc (.cells #[.string p.secrets[k].name,.int .i64 p.secrets[k].len] 62)).cell? ⟨wr.heap.size,0,none⟩=some (.string p.secrets[k].name) by simp)
     have HO2x:=k8 (jb hbA (hK.cell HO2.out (by simp;omega)))
     have HW0x:=k8 (jb hbA (hK.cell HW0c.out (by simp;omega)))
     have HUc:=k8 (jb hBW huk)
     have HUl:=k8 (hul.below hBW)
     have HMp:=k8 (hM.below hbA)
     have HK:=k8 (hK.trans (jd hbA))
     have HRw:=k8 (hRw.kept (jd (M:=[]) hbA) (fun _ _=>by simp))
     have HTs:=k8 (List.take_succ_eq_append_getElem hltx)
     have hrl:rs.length=k:=by rw [hRw.len,List.length_take];omega
     have HLv:=k8 (fun b c=>lvS_snoc p.secrets rs k hlt hrl b c)
     have HIk:=k8 hltx
     have HAl:=k8 hal
     have HLl:Hid (secs[k].length≤64∧1≤secs[k].length):=by show _∧_;omega
     have HXW:Hid (wr.heap.size≤(wr.alloc (.cells #[.string p.secrets[k].name,.int .i64 p.secrets[k].len] 62)).heap.size):=by show _≤_;simp
     have hxs:W3.heap.size≤wr.heap.size:=hK.size
     have HRlt:=k8 (fun x hx=>(hRw.lt x hx).2)
     clear hros hrow hx huk hul hBr hbA hBW hK hM hRw hrl hal har hrs hrw
     generalize p.secrets[k]=a at *
     generalize secs[k]=l at *
     go_wp2_with fail
     clear q0 q1
     generalize hXX:wr.heap.size=X at *
     clear hXX hbx
     refine je zi [.is (.pointer (some ⟨wb,0,none⟩)),.is (.pointer (some ⟨wb,0,none⟩)),.is (.pointer (some ⟨wb,2,none⟩)),.is (.map (some sb)),.is (.pointer (some ⟨X,0,none⟩)),.is (.string a.name),.is (.pointer (some ⟨w.heap.size+1,0,none⟩)),.is (.slice (some ⟨wab,wao,none⟩) secs.length wc),.is (.int .i64 k),.is (.pointer (some ⟨wab,wao+k,none⟩)),.is (uk),mpOwnW X l] (by kernel_rfl) 12 (by decide) (by kernel_rfl) _ rfl ?_ ?_
     ·refine ⟨?_,?_,?_,?_,?_,?_,?_,?_,?_,?_,?_,?_,trivial⟩
      ·refine jc rfl rfl rfl fun x1 y hB hF hD=>?_
       have e10:slot x1 10=.pointer (some ⟨wb,0,none⟩):=hF.at 10 rfl
       clear hB hF
       simp only [execOp,ja,e10]
       first|rfl|(go_simp;try rfl)
      ·refine jc rfl rfl rfl fun x1 y hB hF hD=>?_
       obtain ⟨d0,-⟩:=hD
       have e41:slot x1 41=.pointer (some ⟨wb,0,none⟩):=d0 rfl
       clear hB hF
       simp only [execOp,ja,e41]
       first|rfl|(go_simp;try rfl)
      ·refine jc rfl rfl rfl fun x1 y hB hF hD=>?_
       obtain ⟨d0,-⟩:=hD
       have e42:slot x1 42=.pointer (some ⟨wb,0,none⟩):=d0 rfl
       clear hB hF
       simp only [execOp,ja,e42]
       first|rfl|(go_simp;try rfl)
      ·refine jc rfl rfl rfl fun x1 y hB hF hD=>?_
       obtain ⟨d0,-⟩:=hD
       have e43:slot x1 43=.pointer (some ⟨wb,2,none⟩):=d0 rfl
       have hc:y.cell? ⟨wb,2,none⟩=some (.map (some sb)):=jb hB HO2x.out
       clear hB hF
       simp only [execOp,ja,e43]
       first|rfl|(go_simp;try rfl)
      ·refine jc rfl rfl rfl fun x1 y hB hF hD=>?_
       have e12:slot x1 12=.pointer (some ⟨X,0,none⟩):=hF.at 12 rfl
       clear hB hF
       simp only [execOp,ja,e12]
       first|rfl|(go_simp;try rfl)
      ·refine jc rfl rfl rfl fun x1 y hB hF hD=>?_
       obtain ⟨d0,-⟩:=hD
       have e45:slot x1 45=.pointer (some ⟨X,0,none⟩):=d0 rfl
       have hc:y.cell? ⟨X,0,none⟩=some (.string a.name):=jb hB HX0.out
       clear hB hF
       simp only [execOp,ja,e45]
       first|rfl|(go_simp;try rfl)
      ·refine jc rfl rfl rfl fun x1 y hB hF hD=>?_
       have e7:slot x1 7=.pointer (some ⟨w.heap.size+1,0,none⟩):=hF.at 7 rfl
       clear hB hF
       simp only [execOp,ja,e7]
       first|rfl|(go_simp;try rfl)
      ·refine jc rfl rfl rfl fun x1 y hB hF hD=>?_
       obtain ⟨d0,-⟩:=hD
       have e47:slot x1 47=.pointer (some ⟨w.heap.size+1,0,none⟩):=d0 rfl
       have hc:y.cell? ⟨w.heap.size+1,0,none⟩=some (.slice (some ⟨wab,wao,none⟩) secs.length wc):=jb hB HW0x.out
       clear hB hF
       simp only [execOp,ja,e47]
       first|rfl|(go_simp;try rfl)
      ·refine jc rfl rfl rfl fun x1 y hB hF hD=>?_
       have e11:slot x1 11=.int .i64 k:=hF.at 11 rfl
       clear hB hF
       simp only [execOp,ja,e11]
       first|rfl|(go_simp;try rfl)
      ·refine jc rfl rfl rfl fun x1 y hB hF hD=>?_
       obtain ⟨d0,d1,-⟩:=hD
       have e48:slot x1 48=.slice (some ⟨wab,wao,none⟩) secs.length wc:=d0 rfl
       have e49:slot x1 49=.int .i64 k:=d1 rfl
       have hik:k<secs.length:=HIk.out
       clear hB hF
       simp only [execOp,ja,e48,e49]
       first|rfl|(go_simp;try rfl)
      ·refine jc rfl rfl rfl fun x1 y hB hF hD=>?_
       obtain ⟨d0,-⟩:=hD
       have e50:slot x1 50=.pointer (some ⟨wab,wao+k,none⟩):=d0 rfl
       have hc:y.cell? ⟨wab,wao+k,none⟩=some uk:=jb hB HUc.out
       clear hB hF
       simp only [execOp,ja,e50]
       first|rfl|(go_simp;try rfl)
      ·refine jn (f:=24) rfl rfl fun x1 y hB hF hD=>⟨#[uk],?_,?_⟩
       ·obtain ⟨d0,-⟩:=hD
        have e51:slot x1 51=uk:=d0 rfl
        have g51:=jh e51
        clear hB hF e51
        simp only [execOp]
        simp [go_sem,g51]
       ·refine (clone_words _ l y (HUl.out.below hB) (by have:=HLl.out;omega)).mono ?_
        rintro e w' ⟨hb,v',rfl,ho⟩
        exact ⟨hb,.inl ⟨v',rfl,(yk ho (wx HXW.out hB.size):w'.ownsRow X 35 1 v' l.length (l.map (Value.int .u64)))⟩⟩
     ·intro x1 y hB hF hP
      obtain ⟨p0,p1,p2,p3,p4,p5,p6,p7,p8,p9,p10,p11,-⟩:=hP
      have hx:=jj hF [(41,.pointer (some ⟨wb,0,none⟩)),(42,.pointer (some ⟨wb,0,none⟩)),(43,.pointer (some ⟨wb,2,none⟩)),(44,.map (some sb)),(45,.pointer (some ⟨X,0,none⟩)),(46,.string a.name),(47,.pointer (some ⟨w.heap.size+1,0,none⟩)),(48,.slice (some ⟨wab,wao,none⟩) secs.length wc),(49,.int .i64 k),(50,.pointer (some ⟨wab,wao+k,none⟩)),(51,uk),(52,slot x1 52)] rfl ⟨p0,p1,p2,p3,p4,p5,p6,p7,p8,p9,p10,rfl,trivial⟩
      have hown:y.ownsRow X 35 1 (slot x1 52) l.length (l.map (Value.int .u64)):=p11
      obtain ⟨b,c,ev,hb1,hb2,hb3⟩:=own_some hown (fun h=>by have:=HLl.out.2;rw [h] at this;simp at this)
      rw [ev] at hown hx
      have HMy:=k8 (HMp.out.below hB)
      have HKy:=k8 (HK.out.trans (jd hB))
      have HRy:=k8 (HRw.out.kept (jd (M:=[]) hB) (fun _ _=>by simp))
      have HOy:=k8 hown
      clear hB hF p0 p1 p2 p3 p4 p5 p6 p7 p8 p9 p10 p11 ev hown
      subst hx
      simp only [puts,Act.put,we,wg,wi,wj,wk]
      go_wp2_with (at_mapUpdate;go_loud (refine vd rfl _ _ _ _ rfl keyS 26 Tryz.underlying71 rfl HMy.out _ _ rfl rfl ?_))
      intro w4 hm4 hg4 _
      have k4:Kept [sb] y w4:=kept_grown hg4 (by simp)
      have hR4:=HRy.out.kept k4 (fun x hx=>by have:=(HRy.out.lt x hx).1;simp;omega)
      have ho4:w4.ownsRow W3.heap.size 35 1 (.slice (some ⟨b,0,none⟩) l.length c) l.length (l.map (Value.int .u64)):=yk (own_keptM HOy.out k4 (fun g hg=>by simp [Value.ownBlock] at hg;simp;omega)) hxs
      have hpush:=hR4.push (b:=b) (c:=c) ho4 (fun x hx h=>by have:=HRlt.out x hx;omega) ⟨by omega,Nat.lt_of_lt_of_le hb2 hg4.size⟩
      have HPu:=k8 hpush
      have HM4:=k8 hm4
      have HK4:=k8 (HKy.out.trans k4)
      clear hm4 hg4 k4 hR4 ho4 hpush
      go_wp2_with fail
      go_roundw
      case rel=>
       refine ⟨k+1,rs++[(b,c)],hlt,by go_num,HK4.out,?_,by rw [HTs.out];exact HPu.out⟩
       rw [HLv.out,HAl.out,Int.toNat_natCast]
       exact HM4.out
      case measure=>simp [intOf];omega
    ·have hkk:k=p.secrets.length:=by omega
     have hsll:=(sameLens_at HSl.out).1
     rw [ww (by omega)] at hM
     rw [ww (by omega)] at hRw
     have hxs:W3.heap.size≤wr.heap.size:=hK.size
     have hsv:shared≠[]→∃ c,(.slice sa shared.length sc:Value)=.slice (some ⟨bs,0,none⟩) shared.length c∧wr.ownsRow w.heap.size 35 1 (.slice sa shared.length sc) shared.length (shared.map (Value.int .u64)):=fun hs=>by
      have e:=HBs.out hs
      refine ⟨sc,by rw [e],yk (own_keptM HOw.out hK (fun g hg=>?_)) (by omega)⟩
      rw [e] at hg
      simp [Value.ownBlock] at hg
      simp
      omega
     have hbg:Begun w p secs shared rs bs wb sb W3.heap.size (.slice sa shared.length sc) wr:=⟨hRw,hM,⟨a0,c0,pa,pc,hK.cell HO0.out (by simp;omega),hK.cell HO1.out (by simp;omega),HI0.out⟩,hK.cell HO2.out (by simp;omega),hK.cell HO3.out (by simp;omega),⟨hK.cell HO4.out (by simp;omega),(hK.frozenK (by omega) (by simp;omega)).trans HO5.out⟩,hsv,⟨by omega,by omega,by omega,by omega,by omega,by omega,hxs⟩,⟨by omega,by omega,by omega⟩⟩
     have hfix:=begun_fix hbg HFine.out HSl.out HShl.out
     have hrun:=begun_run hbg HSl.out HUS.out HUH.out
     have hbks:(rs.map (·.1)++[bs])[secs.length]?=some bs:=by
      rw [List.getElem?_append_right (by rw [List.length_map,hRw.len];exact wo _),List.length_map,hRw.len,Nat.sub_self];rfl
     have hnb:∀ b,b<W3.heap.size→b≠bs→b ∉ rs.map (·.1)++[bs]:=fun b h1 h2 hm=>by
      rcases gi.1 hm with hm|hm
      ·have:=(begun_bk hbg).2 b hm;omega
      ·simp only [wy] at hm;exact h2 hm
     have hn0:=hnb w.heap.size (by omega) (Ne.symm hbs0)
     have hn2:=hnb (w.heap.size+2) (by omega) (Ne.symm hbs2)
     have h4r:=(hK.block w.heap.size (by omega) (by simp;omega)).trans H4.out
     have h8r:=(hK.block (w.heap.size+2) (by omega) (by simp;omega)).trans H8.out
     have hcP:=calm_cells (bk:=rs.map (·.1)++[bs]) (wb:=wb) h4r (by decide) hn0 (by omega)
     have hc8:=calm_cells (bk:=rs.map (·.1)++[bs]) (wb:=wb) h8r (by decide) hn2 (by omega)
     have HP1d:=k8 (hK.cell HP1c.out (by simp;omega))
     have HP0d:=k8 (hK.cell HP0c.out (by simp;omega))
     clear HP0c HP1c HW0c HO0 HO1 HO2 HO3 HO4 HO5 HSb HS3 H4
     have HBr:=k8 (show Below w.heap.size w wr from HB3.out.trans (hK.below (B:=w.heap.size) HB3.out.size (by simp;omega)))
     have HCP:=k8 hcP
     have HC8:=k8 hc8
     clear HB3
     have H8r:=k8 h8r
     have HFix:=k8 hfix
     have HRun:=k8 hrun
     have HBks:=k8 hbks
     have HN2:=k8 hn2
     clear hsll hK hM hRw hsv hbg hfix hrun hbks hnb hn0 hn2 h4r h8r hcP hc8
     generalize rs.map (·.1)++[bs]=bk at *
     generalize hshp:(secs++[shared]).map (·.length)=shp at *
     have HShp:=k8 hshp
     clear hshp
     have hFr:=frame_fr (bk:=bk) (wb:=wb) (ob:=wr.heap.size) (i:=fn) (w:=wr) (fun b hb=>(HFix.out.lo b hb).2) HFix.out.wlo.2.1 (wo _)
     have HFr:=k8 hFr
     have hob:w.heap.size+3≤wr.heap.size:=by omega
     have hwbo:wb<wr.heap.size:=by omega
     clear hFr hkk
     go_wp2_with fail
     refine HFr.out.mono ?_
     rintro e w4 ⟨hB4,rfl,hF4⟩
     have HF4:=k8 hF4
     have HB4:=k8 hB4
     have HR4:=k8 (HRun.out.next hB4)
     have hz4:wr.heap.size+2<w4.heap.size:=hF4.fcalm.lt
     have HBE:=k8 (HBr.out.trans (hB4.mono HBr.out.size))
     have p1':=jb hB4 HP1d.out
     have HP1e:=k8 p1'
     have HCPe:=k8 (HCP.out.next (ob:=wr.heap.size) (M:=[]) (j8 hB4) (by simp))
     have HC8e:=k8 (HC8.out.next (ob:=wr.heap.size) (M:=[]) (j8 hB4) (by simp))
     have H8e:=k8 (ji hB4 H8r.out)
     have HP0e:=k8 (jb hB4 HP0d.out)
     clear HCP HC8 H8r HP0d
     obtain ⟨_,_,he,hcf,hlf,hrf⟩:=HFun.out
     simp only [Value.slice.injEq] at he
     obtain ⟨rfl,-,rfl⟩:=he
     have hfl:fn<p.funcs.length:=(List.getElem?_eq_some_iff.1 HG.out).1
     obtain ⟨pfb,pfo,rfl,hrow⟩:=hrf (by intro h;rw [h] at hfl;simp at hfl)
     obtain ⟨ga,gc,gba,gbc,g0,g1,g2,g3,hgps,hgbd⟩:=funIs_at (hrow fn g HG.out)
     have g2':=jb HBE.out g2
     have hfb:=k9 w4 _ g2'
     have HG3:=k8 g3
     have HGps:=k8 hgps
     have HGbd:=k8 hgbd
     have hgl:g.params.length≤6:=(HFine.out.funs fn g HG.out).params.1
     clear hB4 hF4 hrf hrow g0 g1 g2 g3 hgps hgbd HFr
     generalize wr.heap.size=ob at *
     generalize hpm:ob+1=pm at *
     generalize hfbm:pm+1=fb at *
     go_wp2_with fail
     clear p1' g2'
     go_loopw [64] (fun iv wr=>∃ ik:Nat,ik≤g.params.length∧iv=.int .i64 ik∧RK bk wb ob [ob,pm] w4 wr∧vh w p bk wb ob sb (.slice sa shared.length sc) (xy p.secrets) shp ⟨secs++[shared],[]⟩ wr∧zx bk wb ob fn fb ob pm (((g.params.zip args).take ik).foldl (argF secs.length) ([],[])).1 (((g.params.zip args).take ik).foldl (argF secs.length) ([],[])).2 wr∧(((g.params.zip args).take ik).foldl (argF secs.length) ([],[])).2.map (fun x=>(x.1,(x.2.len:Int)))=(g.params.take ik).foldl (fun l x=>if x.kind=2 then aput l x.name x.len else l) []∧(∀ x∈(((g.params.zip args).take ik).foldl (argF secs.length) ([],[])).2,∃ n,shp[x.2.row]?=some n∧x.2.off+x.2.len≤n∧1≤x.2.len)) (fun iv _=>g.params.length - (intOf iv).toNat)
     case atStart=>exact ⟨0,gj _,rfl,RK.refl _ _ _ _ _,HR4.out,HF4.out,rfl,fun x hx=>(by cases hx)⟩
     case round=>
      obtain ⟨ik,hik,rfl,hKr,hRr,hFr,hPr,hOr⟩:=hrel
      by_cases hltp:ik<g.params.length
      ·have hltx:ik<args.length:=by have:=HLa.out;omega
       have hzl:ik<(g.params.zip args).length:=by rw [List.length_zip];omega
       have hsn2:=yq (argF secs.length) (([],[]):Vars×Refs) (g.params.zip args) ik hzl
       have hze:(g.params.zip args)[ik]=(g.params[ik],args[ik]):=by simp
       have hfq:xu shared.length g.params[ik] args[ik]=true:=by
        have:=List.all_eq_true.1 HFit.out _ (List.getElem_mem hzl)
        rw [hze] at this
        exact this
       rw [hze] at hsn2
       have hfs:=yq (fun l (x:z8)=>if x.kind=2 then aput l x.name x.len else l) ([]:List (ByteArray×Int)) g.params ik hltp
       obtain ⟨_,_,he,hcp,hlp,hrp⟩:=HGps.out
       simp only [Value.slice.injEq] at he
       obtain ⟨rfl,-,rfl⟩:=he
       obtain ⟨qb,qo,rfl,hrop⟩:=hrp (by intro h;rw [h] at hltp;simp at hltp)
       obtain ⟨ab,ao,rfl,hroa⟩:=HRA.out (by intro h;rw [h] at hltx;simp at hltx)
       have hBel:Below w.heap.size w wr:=HBE.out.trans (hKr.below (B:=w.heap.size) HBE.out.size (fun b hb=>(HFix.out.lo b hb).1) HFix.out.wlo.1 (by omega) (fun b hb=>by
        simp only [gh,List.not_mem_nil,or_false] at hb
        rcases hb with rfl|rfl<;>omega))
       have hpa:=hrop ik g.params[ik] (by simp [hltp])
       have hxa:=hroa ik args[ik] (by simp [hltx])
       have hxu:=HUA.out _ (List.getElem_mem hltx)
       have hqk:=(HFine.out.funs fn g HG.out).params.2 g.params[ik] (List.getElem_mem hltp)
       have q0':=jb hBel hpa.1.1
       have q1':=jb hBel hpa.2.1
       have q2':=jb hBel hpa.2.2.1
       have hbp:=k9 wr _ q1'
       have hbx:=k9 wr _ (jb hBel hxa)
       have HXv:=k8 (jb hBel hxa)
       have HFs:=k8 hfs
       have HSn2:=k8 hsn2
       have HXu:=k8 hxu
       have HQk:=k8 hqk
       have HFq:=k8 hfq
       have HIk:=k8 hltx
       clear hrp hrop hroa hpa hxa hxu hqk hfs hsn2 hze hfq hzl
       generalize g.params[ik]=q at *
       generalize args[ik]=x at *
       generalize ((g.params.zip args).take ik).foldl (argF secs.length) ([],[])=ya at *
       obtain ⟨nm,qk,ql⟩:=q
       simp only at q0' q1' q2' HFs
       have hBx:=(wu wr.heap.size wr).alloc (wo _) (.cells #[.string nm,.int .i64 qk,.int .i64 ql] 56)
       have HQ0:=k8 (show (wr.alloc (.cells #[.string nm,.int .i64 qk,.int .i64 ql] 56)).cell? ⟨wr.heap.size,0,none⟩=some (.string nm) by simp)
       have HQ2:=k8 (show (wr.alloc (.cells #[.string nm,.int .i64 qk,.int .i64 ql] 56)).cell? ⟨wr.heap.size,2,none⟩=some (.int .i64 ql) by simp)
       have HXv:=k8 (jb hBx HXv.out)
       have hKx:RK bk wb ob [ob,pm] w4 (wr.alloc (.cells #[.string nm,.int .i64 qk,.int .i64 ql] 56)):=hKr.trans (j8 hBx)
       have hRx:=vh.next hRr hBx
       have hFx:zx bk wb ob fn fb ob pm ya.1 ya.2 (wr.alloc (.cells #[.string nm,.int .i64 qk,.int .i64 ql] 56)):=zx.next (M:=[]) hFr (j8 (bk:=bk) (wb:=wb) (ob:=ob) hBx) (by simp) (by simp) (by simp)
       have HKx:=k8 hKx
       have HRx:=k8 hRx
       have HNx:=k8 hFx
       have HPr:=k8 hPr
       have HOr:=k8 hOr
       clear hKr hRr hFr hPr hOr hBel hBx hKx hRx hFx
       by_cases hq2:qk=2
       ·subst hq2
        have hfq:=of_decide_eq_true HFq.out rfl
        have hql:=HQk.out.2.2 rfl
        simp only at hfq hql
        obtain ⟨xn,rfl⟩:∃ xn:Nat,x=xn:=⟨x.toNat,by have:=HXu.out.1;omega⟩
        obtain ⟨qn,rfl⟩:∃ qn:Nat,ql=qn:=⟨ql.toNat,by omega⟩
        have hsne:shared≠[]:=fun h=>by rw [h] at hfq;simp at hfq;omega
        obtain rfl:=HBs.out hsne
        have HSx:Hid (xn≤shared.length∧shared.length≤sc∧qn≤shared.length - xn∧1≤qn):=by show _∧_;have:=HSc.out;omega
        have HBsh:=k8 HRx.out.shared
        have HF3:=k8 HNx.out.cells.2.2.2
        clear hfq hql hsne HFq
        go_wp2_with fail
        generalize hXX:wr.heap.size=X at *
        clear hXX hbp hbx q0' q1' q2'
        refine je zi [.is (.pointer (some ⟨fb,0,none⟩)),.is (.pointer (some ⟨fb,0,none⟩)),.is (.pointer (some ⟨fb,3,none⟩)),.is (.map (some pm)),.is (.pointer (some ⟨X,0,none⟩)),.is (.string nm),.is (.pointer (some ⟨wb,0,none⟩)),.is (.pointer (some ⟨wb,0,none⟩)),.is (.pointer (some ⟨wb,3,none⟩)),.is (.slice (some ⟨bs,0,none⟩) shared.length sc),.is (.slice (some ⟨ab,ao,none⟩) args.length ac),.is (.int .i64 ik),.is (.pointer (some ⟨ab,ao+ik,none⟩)),.is (.int .u64 xn),.is (.slice (some ⟨bs,xn,none⟩) (shared.length - xn) (sc - xn)),.is (.pointer (some ⟨X,2,none⟩)),.is (.int .i64 qn),.is (.slice (some ⟨bs,xn,none⟩) qn (sc - xn))] (by kernel_rfl) 18 (by decide) (by kernel_rfl) _ rfl ?_ ?_
        ·refine ⟨?_,?_,?_,?_,?_,?_,?_,?_,?_,?_,?_,?_,?_,?_,?_,?_,?_,?_,trivial⟩
         ·refine jc rfl rfl rfl fun x1 y hB hF hD=>?_
          have e13:slot x1 13=.pointer (some ⟨fb,0,none⟩):=hF.at 13 rfl
          clear hB hF
          simp only [execOp,ja,e13]
          first|rfl|(go_simp;try rfl)
         ·refine jc rfl rfl rfl fun x1 y hB hF hD=>?_
          obtain ⟨d0,-⟩:=hD
          have e72:slot x1 72=.pointer (some ⟨fb,0,none⟩):=d0 rfl
          clear hB hF
          simp only [execOp,ja,e72]
          first|rfl|(go_simp;try rfl)
         ·refine jc rfl rfl rfl fun x1 y hB hF hD=>?_
          obtain ⟨d0,-⟩:=hD
          have e73:slot x1 73=.pointer (some ⟨fb,0,none⟩):=d0 rfl
          clear hB hF
          simp only [execOp,ja,e73]
          first|rfl|(go_simp;try rfl)
         ·refine jc rfl rfl rfl fun x1 y hB hF hD=>?_
          obtain ⟨d0,-⟩:=hD
          have e74:slot x1 74=.pointer (some ⟨fb,3,none⟩):=d0 rfl
          have hc:y.cell? ⟨fb,3,none⟩=some (.map (some pm)):=jb hB HF3.out
          clear hB hF
          simp only [execOp,ja,e74]
          first|rfl|(go_simp;try rfl)
         ·refine jc rfl rfl rfl fun x1 y hB hF hD=>?_
          have e15:slot x1 15=.pointer (some ⟨X,0,none⟩):=hF.at 15 rfl
          clear hB hF
          simp only [execOp,ja,e15]
          first|rfl|(go_simp;try rfl)
         ·refine jc rfl rfl rfl fun x1 y hB hF hD=>?_
          obtain ⟨d0,-⟩:=hD
          have e76:slot x1 76=.pointer (some ⟨X,0,none⟩):=d0 rfl
          have hc:y.cell? ⟨X,0,none⟩=some (.string nm):=jb hB HQ0.out
          clear hB hF
          simp only [execOp,ja,e76]
          first|rfl|(go_simp;try rfl)
         ·refine jc rfl rfl rfl fun x1 y hB hF hD=>?_
          have e10:slot x1 10=.pointer (some ⟨wb,0,none⟩):=hF.at 10 rfl
          clear hB hF
          simp only [execOp,ja,e10]
          first|rfl|(go_simp;try rfl)
         ·refine jc rfl rfl rfl fun x1 y hB hF hD=>?_
          obtain ⟨d0,-⟩:=hD
          have e78:slot x1 78=.pointer (some ⟨wb,0,none⟩):=d0 rfl
          clear hB hF
          simp only [execOp,ja,e78]
          first|rfl|(go_simp;try rfl)
         ·refine jc rfl rfl rfl fun x1 y hB hF hD=>?_
          obtain ⟨d0,-⟩:=hD
          have e79:slot x1 79=.pointer (some ⟨wb,0,none⟩):=d0 rfl
          clear hB hF
          simp only [execOp,ja,e79]
          first|rfl|(go_simp;try rfl)
         ·refine jc rfl rfl rfl fun x1 y hB hF hD=>?_
          obtain ⟨d0,-⟩:=hD
          have e80:slot x1 80=.pointer (some ⟨wb,3,none⟩):=d0 rfl
          have hc:y.cell? ⟨wb,3,none⟩=some (.slice (some ⟨bs,0,none⟩) shared.length sc):=jb hB HBsh.out
          clear hB hF
          simp only [execOp,ja,e80]
          first|rfl|(go_simp;try rfl)
         ·refine jc rfl rfl rfl fun x1 y hB hF hD=>?_
          have e2:slot x1 2=.slice (some ⟨ab,ao,none⟩) args.length ac:=hF.at 2 rfl
          clear hB hF
          simp only [execOp,ja,e2]
          first|rfl|(go_simp;try rfl)
         ·refine jc rfl rfl rfl fun x1 y hB hF hD=>?_
          have e14:slot x1 14=.int .i64 ik:=hF.at 14 rfl
          clear hB hF
          simp only [execOp,ja,e14]
          first|rfl|(go_simp;try rfl)
         ·refine jc rfl rfl rfl fun x1 y hB hF hD=>?_
          obtain ⟨d0,d1,-⟩:=hD
          have e82:slot x1 82=.slice (some ⟨ab,ao,none⟩) args.length ac:=d0 rfl
          have e83:slot x1 83=.int .i64 ik:=d1 rfl
          have hik:ik<args.length:=HIk.out
          clear hB hF
          simp only [execOp,ja,e82,e83]
          first|rfl|(go_simp;try rfl)
         ·refine jc rfl rfl rfl fun x1 y hB hF hD=>?_
          obtain ⟨d0,-⟩:=hD
          have e84:slot x1 84=.pointer (some ⟨ab,ao+ik,none⟩):=d0 rfl
          have hc:y.cell? ⟨ab,ao+ik,none⟩=some (.int .u64 xn):=jb hB HXv.out
          clear hB hF
          simp only [execOp,ja,e84]
          first|rfl|(go_simp;try rfl)
         ·refine jc rfl rfl rfl fun x1 y hB hF hD=>?_
          obtain ⟨d0,d1,-⟩:=hD
          have e81:slot x1 81=.slice (some ⟨bs,0,none⟩) shared.length sc:=d0 rfl
          have e85:slot x1 85=.int .u64 xn:=d1 rfl
          have hl1:xn≤shared.length:=HSx.out.1
          have hl2:¬ sc=xn:=by have:=HSx.out;omega
          have g81:=jh e81
          have g85:=jh e85
          clear hB hF e81 e85
          simp only [execOp]
          simp [go_sem,g81,g85]
          rw [if_pos hl1,if_neg hl2]
         ·refine jc rfl rfl rfl fun x1 y hB hF hD=>?_
          have e15:slot x1 15=.pointer (some ⟨X,0,none⟩):=hF.at 15 rfl
          clear hB hF
          simp only [execOp,ja,e15]
          first|rfl|(go_simp;try rfl)
         ·refine jc rfl rfl rfl fun x1 y hB hF hD=>?_
          obtain ⟨d0,-⟩:=hD
          have e87:slot x1 87=.pointer (some ⟨X,2,none⟩):=d0 rfl
          have hc:y.cell? ⟨X,2,none⟩=some (.int .i64 qn):=jb hB HQ2.out
          clear hB hF
          simp only [execOp,ja,e87]
          first|rfl|(go_simp;try rfl)
         ·refine jc rfl rfl rfl fun x1 y hB hF hD=>?_
          obtain ⟨d0,d1,-⟩:=hD
          have e86:slot x1 86=.slice (some ⟨bs,xn,none⟩) (shared.length - xn) (sc - xn):=d0 rfl
          have e88:slot x1 88=.int .i64 qn:=d1 rfl
          have hl1:qn≤shared.length - xn:=HSx.out.2.2.1
          have hl2:shared.length - xn≤sc - xn:=by have:=HSx.out.2.1;omega
          have g86:=jh e86
          have g88:=jh e88
          clear hB hF e86 e88
          simp only [execOp]
          simp [go_sem,g86,g88]
          omega
        ·intro x1 y hB hF hP
         obtain ⟨p0,p1,p2,p3,p4,p5,p6,p7,p8,p9,p10,p11,p12,p13,p14,p15,p16,p17,-⟩:=hP
         have hx:=jj hF [(72,.pointer (some ⟨fb,0,none⟩)),(73,.pointer (some ⟨fb,0,none⟩)),(74,.pointer (some ⟨fb,3,none⟩)),(75,.map (some pm)),(76,.pointer (some ⟨X,0,none⟩)),(77,.string nm),(78,.pointer (some ⟨wb,0,none⟩)),(79,.pointer (some ⟨wb,0,none⟩)),(80,.pointer (some ⟨wb,3,none⟩)),(81,.slice (some ⟨bs,0,none⟩) shared.length sc),(82,.slice (some ⟨ab,ao,none⟩) args.length ac),(83,.int .i64 ik),(84,.pointer (some ⟨ab,ao+ik,none⟩)),(85,.int .u64 xn),(86,.slice (some ⟨bs,xn,none⟩) (shared.length - xn) (sc - xn)),(87,.pointer (some ⟨X,2,none⟩)),(88,.int .i64 qn),(89,.slice (some ⟨bs,xn,none⟩) qn (sc - xn))] rfl ⟨p0,p1,p2,p3,p4,p5,p6,p7,p8,p9,p10,p11,p12,p13,p14,p15,p16,p17,trivial⟩
         obtain ⟨lv,hl2,he2⟩:=HNx.out.pmap
         have HMy:=k8 (hl2.below hB)
         have HKy:=k8 (HKx.out.trans (j8 hB))
         have HRy:=k8 (HRx.out.next hB)
         have HNy:=k8 (show zx bk wb ob fn fb ob pm ya.1 ya.2 y from zx.next (M:=[]) HNx.out (j8 (bk:=bk) (wb:=wb) (ob:=ob) hB) (by simp) (by simp) (by simp))
         have HE2:=k8 he2
         have hSx:=HSx.out
         have HAb:=k8 (absV_mk (bk:=bk) (r:=⟨secs.length,xn,qn⟩) (b:=bs) (c:=sc - xn) HFix.out.nd HBks.out (by simp only;omega))
         clear hB hF p0 p1 p2 p3 p4 p5 p6 p7 p8 p9 p10 p11 p12 p13 p14 p15 p16 p17 hl2 he2 hSx
         subst hx
         simp only [puts,Act.put,we,wg,wi,wj,wk]
         go_wp2_with (at_mapUpdate;go_loud (refine vd rfl _ _ _ _ rfl keyS 26 Tryz.underlying71 rfl HMy.out _ _ rfl rfl ?_))
         intro w5 hm5 hg5 _
         have hF5:=HNy.out.putP HE2.out HAb.out hm5 hg5
         have hR5:=vh.other HFix.out HRy.out HNy.out.pcalm HNy.out.lo.2.2 hg5
         have hK5:RK bk wb ob [ob,pm] w4 w5:=HKy.out.trans (rk_grown hg5 (.inl (by simp)))
         have HF5:=k8 hF5
         have HR5:=k8 hR5
         have HK5:=k8 hK5
         have HSt:Hid (argF secs.length ya (⟨nm,2,qn⟩,xn)=(ya.1,aput ya.2 nm ⟨secs.length,xn,qn⟩)):=by
          show _=_
          unfold argF
          rw [if_pos rfl]
          simp only [Int.toNat_natCast]
         clear hm5 hg5 hF5 hR5 hK5
         go_wp2_with fail
         go_roundw
         case rel=>
          refine ⟨ik+1,hltp,by go_num,HK5.out,HR5.out,?_⟩
          rw [HSn2.out,HSt.out]
          refine ⟨HF5.out,?_,fun z hz=>?_⟩
          ·rw [HFs.out,if_pos trivial,← HPr.out]
           exact (kz (fun r:Ref=>(r.len:Int)) ya.2 nm ⟨secs.length,xn,qn⟩).symm
          ·rcases aput_mem hz with hz|hz
           ·exact HOr.out z hz
           ·rw [hz]
            have hSx:=HSx.out
            refine ⟨shared.length,?_,by simp only;omega,hSx.2.2.2⟩
            rw [← HShp.out]
            simp
         case measure=>simp [intOf];omega
       ·have tq:(qk == 2)=false:=by simpa using hq2
        have HF2:=k8 HNx.out.cells.2.2.1
        go_wp2_with fail
        generalize hXX:wr.heap.size=X at *
        clear hXX hbp hbx q0' q1' q2' tq
        refine je zi [.is (.pointer (some ⟨fb,0,none⟩)),.is (.pointer (some ⟨fb,0,none⟩)),.is (.pointer (some ⟨fb,2,none⟩)),.is (.map (some ob)),.is (.pointer (some ⟨X,0,none⟩)),.is (.string nm),.is (.slice (some ⟨ab,ao,none⟩) args.length ac),.is (.int .i64 ik),.is (.pointer (some ⟨ab,ao+ik,none⟩)),.is (.int .u64 x)] (by kernel_rfl) 10 (by decide) (by kernel_rfl) _ rfl ?_ ?_
        ·refine ⟨?_,?_,?_,?_,?_,?_,?_,?_,?_,?_,trivial⟩
         ·refine jc rfl rfl rfl fun x1 y hB hF hD=>?_
          have e13:slot x1 13=.pointer (some ⟨fb,0,none⟩):=hF.at 13 rfl
          clear hB hF
          simp only [execOp,ja,e13]
          first|rfl|(go_simp;try rfl)
         ·refine jc rfl rfl rfl fun x1 y hB hF hD=>?_
          obtain ⟨d0,-⟩:=hD
          have e90:slot x1 90=.pointer (some ⟨fb,0,none⟩):=d0 rfl
          clear hB hF
          simp only [execOp,ja,e90]
          first|rfl|(go_simp;try rfl)
         ·refine jc rfl rfl rfl fun x1 y hB hF hD=>?_
          obtain ⟨d0,-⟩:=hD
          have e91:slot x1 91=.pointer (some ⟨fb,0,none⟩):=d0 rfl
          clear hB hF
          simp only [execOp,ja,e91]
          first|rfl|(go_simp;try rfl)
         ·refine jc rfl rfl rfl fun x1 y hB hF hD=>?_
          obtain ⟨d0,-⟩:=hD
          have e92:slot x1 92=.pointer (some ⟨fb,2,none⟩):=d0 rfl
          have hc:y.cell? ⟨fb,2,none⟩=some (.map (some ob)):=jb hB HF2.out
          clear hB hF
          simp only [execOp,ja,e92]
          first|rfl|(go_simp;try rfl)
         ·refine jc rfl rfl rfl fun x1 y hB hF hD=>?_
          have e15:slot x1 15=.pointer (some ⟨X,0,none⟩):=hF.at 15 rfl
          clear hB hF
          simp only [execOp,ja,e15]
          first|rfl|(go_simp;try rfl)
         ·refine jc rfl rfl rfl fun x1 y hB hF hD=>?_
          obtain ⟨d0,-⟩:=hD
          have e94:slot x1 94=.pointer (some ⟨X,0,none⟩):=d0 rfl
          have hc:y.cell? ⟨X,0,none⟩=some (.string nm):=jb hB HQ0.out
          clear hB hF
          simp only [execOp,ja,e94]
          first|rfl|(go_simp;try rfl)
         ·refine jc rfl rfl rfl fun x1 y hB hF hD=>?_
          have e2:slot x1 2=.slice (some ⟨ab,ao,none⟩) args.length ac:=hF.at 2 rfl
          clear hB hF
          simp only [execOp,ja,e2]
          first|rfl|(go_simp;try rfl)
         ·refine jc rfl rfl rfl fun x1 y hB hF hD=>?_
          have e14:slot x1 14=.int .i64 ik:=hF.at 14 rfl
          clear hB hF
          simp only [execOp,ja,e14]
          first|rfl|(go_simp;try rfl)
         ·refine jc rfl rfl rfl fun x1 y hB hF hD=>?_
          obtain ⟨d0,d1,-⟩:=hD
          have e96:slot x1 96=.slice (some ⟨ab,ao,none⟩) args.length ac:=d0 rfl
          have e97:slot x1 97=.int .i64 ik:=d1 rfl
          have hik:ik<args.length:=HIk.out
          clear hB hF
          simp only [execOp,ja,e96,e97]
          first|rfl|(go_simp;try rfl)
         ·refine jc rfl rfl rfl fun x1 y hB hF hD=>?_
          obtain ⟨d0,-⟩:=hD
          have e98:slot x1 98=.pointer (some ⟨ab,ao+ik,none⟩):=d0 rfl
          have hc:y.cell? ⟨ab,ao+ik,none⟩=some (.int .u64 x):=jb hB HXv.out
          clear hB hF
          simp only [execOp,ja,e98]
          first|rfl|(go_simp;try rfl)
        ·intro x1 y hB hF hP
         obtain ⟨p0,p1,p2,p3,p4,p5,p6,p7,p8,p9,-⟩:=hP
         have hx:=jj hF [(90,.pointer (some ⟨fb,0,none⟩)),(91,.pointer (some ⟨fb,0,none⟩)),(92,.pointer (some ⟨fb,2,none⟩)),(93,.map (some ob)),(94,.pointer (some ⟨X,0,none⟩)),(95,.string nm),(96,.slice (some ⟨ab,ao,none⟩) args.length ac),(97,.int .i64 ik),(98,.pointer (some ⟨ab,ao+ik,none⟩)),(99,.int .u64 x)] rfl ⟨p0,p1,p2,p3,p4,p5,p6,p7,p8,p9,trivial⟩
         have HKy:=k8 (HKx.out.trans (j8 hB))
         have HRy:=k8 (HRx.out.next hB)
         have HNy:=k8 (show zx bk wb ob fn fb ob pm ya.1 ya.2 y from zx.next (M:=[]) HNx.out (j8 (bk:=bk) (wb:=wb) (ob:=ob) hB) (by simp) (by simp) (by simp))
         clear hB hF p0 p1 p2 p3 p4 p5 p6 p7 p8 p9
         subst hx
         simp only [puts,Act.put,we,wg,wi,wj,wk]
         go_wp2_with (at_mapUpdate;go_loud (refine vd rfl _ _ _ _ rfl keyS 35 Tryz.underlying77 rfl HNy.out.vmap _ _ rfl rfl ?_))
         intro w5 hm5 hg5 _
         have hF5:=HNy.out.putV hm5 hg5 HXu.out
         have hR5:=vh.other HFix.out HRy.out HNy.out.vcalm HNy.out.lo.2.1 hg5
         have hK5:RK bk wb ob [ob,pm] w4 w5:=HKy.out.trans (rk_grown hg5 (.inl (by simp)))
         have HF5:=k8 hF5
         have HR5:=k8 hR5
         have HK5:=k8 hK5
         have HSt:Hid (argF secs.length ya (⟨nm,qk,ql⟩,x)=(aput ya.1 nm x,ya.2)):=by
          show _=_
          unfold argF
          rw [if_neg hq2]
         have HFs2:=HFs.out
         rw [if_neg hq2] at HFs2
         have HFs2:=k8 HFs2
         clear hm5 hg5 hF5 hR5 hK5 hq2
         go_wp2_with fail
         go_roundw
         case rel=>
          refine ⟨ik+1,hltp,by go_num,HK5.out,HR5.out,?_⟩
          rw [HSn2.out,HSt.out]
          refine ⟨HF5.out,?_,HOr.out⟩
          rw [HFs2.out]
          exact HPr.out
         case measure=>simp [intOf];omega
      ·have hkk:ik=g.params.length:=by omega
       subst hkk
       rw [ww (by have:=HLa.out;rw [List.length_zip];omega)] at hFr hPr hOr
       rw [ww (wo _)] at hPr
       have hBel:Below w.heap.size w wr:=HBE.out.trans (hKr.below (B:=w.heap.size) HBE.out.size (fun b hb=>(HFix.out.lo b hb).1) HFix.out.wlo.1 (by omega) (fun b hb=>by
        simp only [gh,List.not_mem_nil,or_false] at hb
        rcases hb with rfl|rfl<;>omega))
       have HBd:=run_all ⟨w,p,bk,wb,ob,sb,.slice sa shared.length sc,xy p.secrets,shp⟩ (fn+1) ⟨fn,g,fb,ob,pm,(argsOf secs.length g args).2⟩ (Nat.lt_succ_self _) ⟨HFix.out,⟨HG.out,hPr,hOr⟩,HRf.out,HWt.out⟩ (argsOf secs.length g args).1 _ wr ⟨secs++[shared],[]⟩ hBel hRr hFr HGbd.out
       have hcall:Calls Tryz.prog 26 #[.pointer (some ⟨fb,0,none⟩),.slice gba g.body.length gbc] wr (fun e w'=>e=.returned (.int .u64 Y.2.1)∧RK bk wb ob [ob] wr w'∧vh w p bk wb ob sb (.slice sa shared.length sc) (xy p.secrets) shp Y.2.2 w'∧U64 Y.2.1):=by
        refine (HBd (by show (bodyS p fn g args secs shared).2.2.opened.length≤_;rw [HY.out];exact HLen.out)).mono ?_
        rintro e w' ⟨h1,h2,h3,h4,h5⟩
        rw [← HY.out]
        exact ⟨h1,h2,h3,h5⟩
       have q1:=HCPe.out.cell hKr (by simp;omega) HP1e.out
       have g3':=jb hBel HG3.out
       have hbl3:=k9 wr _ g3'
       have HCall:=k8 hcall
       have HKr:=k8 hKr
       have HBel:=k8 hBel
       clear hcall HBd hKr hRr hFr hPr hOr hBel
       obtain ⟨yv,yval,yst⟩:=Y
       simp only at HCall
       go_wp2_with fail
       refine HCall.out.mono ?_
       rintro e w6 ⟨rfl,hk6,hr6,hu6⟩
       have hKall:RK bk wb ob [ob,pm] w4 w6:=HKr.out.trans (hk6.mono (by simp))
       have p0':=HCPe.out.cell hKall (by simp;omega) HP0e.out
       have H86:=k8 ((HC8e.out.block hKall (by simp;omega)).trans H8e.out)
       have HBel6:Hid (Below w.heap.size w w6):=k8 (HBE.out.trans (hKall.below (B:=w.heap.size) HBE.out.size (fun b hb=>(HFix.out.lo b hb).1) HFix.out.wlo.1 (by omega) (fun b hb=>by
        simp only [gh,List.not_mem_nil,or_false] at hb
        rcases hb with rfl|rfl<;>omega)))
       obtain ⟨ov,o1,o2,o3⟩:=hr6.opened
       obtain ⟨oa,oc,rfl,hoc,hon,hos⟩:=own_shape o3
       have s2:=hr6.sec
       have s3:=hr6.shared
       have hwb6:=k9 w6 _ o1
       obtain ⟨lv,hlv,hle⟩:=hr6.secs
       have hz6:ob≤w6.heap.size:=hr6.big
       have HR6:=k8 hr6
       have HU6:=k8 hu6
       have HO3:=k8 o3
       have HLv:=k8 hlv
       have HLe:=k8 hle
       have HS2:=k8 s2
       have HS3:=k8 s3
       have HP06:=k8 p0'
       have hP6:w.heap.size<w6.heap.size:=by omega
       clear q1 g3' hk6 hr6 hu6 hKall o2 o3 hoc hon hos hlv hle
       go_wp2_with fail
       clear o1 s2 s3 p0' hwb6
       go_loopw [118] (fun iv wr=>∃ (k:Nat) (va:Option Addr) (vc:Nat),k≤p.secrets.length∧iv=.int .i64 k∧Below w6.heap.size w6 wr∧OutAt w6.heap.size yval (.slice oa yst.opened.length oc) va k vc (valsOf lv (p.secrets.take k)) wr) (fun iv _=>p.secrets.length - (intOf iv).toNat)
       case atStart=>
        refine ⟨0,none,0,gj _,rfl,?_,⟨?_,⟨rfl,.inl ⟨rfl,rfl⟩⟩⟩⟩
        ·exact (wu _ _).alloc (wo _) _
        ·exact heap_alloc_new w6 _
       case round=>
        obtain ⟨k,va,vc,hk2,rfl,hB6,hO,hvs⟩:=hrel
        have hwz:ob≤wr.heap.size:=wx hz6 hB6.size
        by_cases hlt2:k<p.secrets.length
        ·obtain ⟨_,_,he,hcs,hls,hrs⟩:=HSec.out
         simp only [Value.slice.injEq] at he
         obtain ⟨rfl,-,rfl⟩:=he
         obtain ⟨sb0,so0,rfl,hros⟩:=hrs (by intro h;rw [h] at hlt2;simp at hlt2)
         have hx:=hros k p.secrets[k] (by simp [hlt2])
         have hBE:=HBel6.out.trans (hB6.mono HBel6.out.size)
         have q0:=jb hBE hx.1.1
         have q1:=jb hBE hx.2.1
         have hbx:=k9 wr _ q0
         obtain ⟨kb,kc,hvk,-⟩:=out_rows (w:=w6) HFine.out HSl.out (bk:=bk) HR6.out.rows (HR6.out.shape.trans HShp.out.symm) HLe.out (List.getElem_mem hlt2)
         have hbA:=(wu wr.heap.size wr).alloc (wo _) (.cells #[.string p.secrets[k].name,.int .i64 p.secrets[k].len] 62)
         have hBA:=hB6.trans (hbA.mono hB6.size)
         have HX0:=k8 (show (wr.alloc (.cells #[.string p.secrets[k].name,.int .i64 p.secrets[k].len] 62)).cell? ⟨wr.heap.size,0,none⟩=some (.string p.secrets[k].name) by simp)
         have HO2:=k8 (jb hBA HS2.out)
         have HMp:=k8 (HLv.out.below hBA)
         have HOb:=k8 (ji hbA hO)
         have HVs:=k8 (cell_of_row _ _ 2 _ _ _ (ji hbA hO))
         have HOwn:=k8 (jv hvs hbA)
         have HBA:=k8 hBA
         have htk:valsOf lv (p.secrets.take (k+1))=valsOf lv (p.secrets.take k)++[(aget lv p.secrets[k].name).getD (.slice none 0 0)]:=by
          unfold valsOf
          rw [List.take_succ_eq_append_getElem hlt2,List.map_append];rfl
         rw [hvk] at htk
         have HTk:=k8 htk
         have HVk:=k8 hvk
         clear hros hx hBE hvk hbA hBA htk hO hvs hrs
         generalize p.secrets[k]=a at *
         generalize hlk:(yst.mem.getD (refAt (xy p.secrets) a.name).row []).length=kl at *
         clear hlk
         have HO6:Hid (w6.heap.size≤wr.heap.size∧ob≤w6.heap.size):=⟨hB6.size,hz6⟩
         clear hB6
         go_wp2_with fail
         clear q0 q1 hbx
         generalize hXX:wr.heap.size=X at *
         generalize hOO:w6.heap.size=O at *
         clear hXX
         refine je zi [.is (.pointer (some ⟨O,2,none⟩)),.is (.pointer (some ⟨O,2,none⟩)),.is (.slice va k vc),.is (.pointer (some ⟨wb,0,none⟩)),.is (.pointer (some ⟨wb,0,none⟩)),.is (.pointer (some ⟨wb,2,none⟩)),.is (.map (some sb)),.is (.pointer (some ⟨X,0,none⟩)),.is (.string a.name),.is (.slice (some ⟨kb,0,none⟩) kl kc),mpOneV (.slice (some ⟨kb,0,none⟩) kl kc)] (by kernel_rfl) 11 (by decide) (by kernel_rfl) _ rfl ?_ ?_
         ·refine ⟨?_,?_,?_,?_,?_,?_,?_,?_,?_,?_,?_,trivial⟩
          ·refine jc rfl rfl rfl fun x1 y hB hF hD=>?_
           have e16:slot x1 16=.pointer (some ⟨O,0,none⟩):=hF.at 16 rfl
           clear hB hF
           simp only [execOp,ja,e16]
           first|rfl|(go_simp;try rfl)
          ·refine jc rfl rfl rfl fun x1 y hB hF hD=>?_
           obtain ⟨d0,-⟩:=hD
           have e122:slot x1 122=.pointer (some ⟨O,2,none⟩):=d0 rfl
           clear hB hF
           simp only [execOp,ja,e122]
           first|rfl|(go_simp;try rfl)
          ·refine jc rfl rfl rfl fun x1 y hB hF hD=>?_
           obtain ⟨d0,-⟩:=hD
           have e123:slot x1 123=.pointer (some ⟨O,2,none⟩):=d0 rfl
           have hc:y.cell? ⟨O,2,none⟩=some (.slice va k vc):=jb hB HVs.out
           clear hB hF
           simp only [execOp,ja,e123]
           first|rfl|(go_simp;try rfl)
          ·refine jc rfl rfl rfl fun x1 y hB hF hD=>?_
           have e10:slot x1 10=.pointer (some ⟨wb,0,none⟩):=hF.at 10 rfl
           clear hB hF
           simp only [execOp,ja,e10]
           first|rfl|(go_simp;try rfl)
          ·refine jc rfl rfl rfl fun x1 y hB hF hD=>?_
           obtain ⟨d0,-⟩:=hD
           have e125:slot x1 125=.pointer (some ⟨wb,0,none⟩):=d0 rfl
           clear hB hF
           simp only [execOp,ja,e125]
           first|rfl|(go_simp;try rfl)
          ·refine jc rfl rfl rfl fun x1 y hB hF hD=>?_
           obtain ⟨d0,-⟩:=hD
           have e126:slot x1 126=.pointer (some ⟨wb,0,none⟩):=d0 rfl
           clear hB hF
           simp only [execOp,ja,e126]
           first|rfl|(go_simp;try rfl)
          ·refine jc rfl rfl rfl fun x1 y hB hF hD=>?_
           obtain ⟨d0,-⟩:=hD
           have e127:slot x1 127=.pointer (some ⟨wb,2,none⟩):=d0 rfl
           have hc:y.cell? ⟨wb,2,none⟩=some (.map (some sb)):=jb hB HO2.out
           clear hB hF
           simp only [execOp,ja,e127]
           first|rfl|(go_simp;try rfl)
          ·refine jc rfl rfl rfl fun x1 y hB hF hD=>?_
           have e18:slot x1 18=.pointer (some ⟨X,0,none⟩):=hF.at 18 rfl
           clear hB hF
           simp only [execOp,ja,e18]
           first|rfl|(go_simp;try rfl)
          ·refine jc rfl rfl rfl fun x1 y hB hF hD=>?_
           obtain ⟨d0,-⟩:=hD
           have e129:slot x1 129=.pointer (some ⟨X,0,none⟩):=d0 rfl
           have hc:y.cell? ⟨X,0,none⟩=some (.string a.name):=jb hB HX0.out
           clear hB hF
           simp only [execOp,ja,e129]
           first|rfl|(go_simp;try rfl)
          ·refine jc rfl rfl rfl fun x1 y hB hF hD=>?_
           obtain ⟨d0,d1,-⟩:=hD
           have e1:slot x1 128=.map (some sb):=d0 rfl
           have e2:slot x1 130=.string a.name:=d1 rfl
           have hrun:=xr keyS (j5.below HMp.out hB) Tryz.underlying71 (zeroS y) a.name false
           rw [if_neg (by decide),HVk.out] at hrun
           clear hB hF
           simp only [execOp,ja,e1,e2]
           simp [hrun,Result.andThen]
          ·refine jr rfl fun x1 y hB hF hD=>?_
           obtain ⟨d0,-⟩:=hD
           have e1:slot x1 131=.slice (some ⟨kb,0,none⟩) kl kc:=d0 rfl
           have g1:=jh e1
           clear hF e1
           unfold Oper.wp
           simp only [execOp]
           simp [go_sem,g1]
           refine ⟨_,rfl,(wu _ _).alloc (wo _) _,?_⟩
           refine (?_:(mpOneV (.slice (some ⟨kb,0,none⟩) kl kc)).p (.slice (some ⟨y.heap.size,0,none⟩) 1 1) (y.alloc (.cells #[.slice (some ⟨kb,0,none⟩) kl kc] 26)))
           exact ⟨y.heap.size,rfl,cell_of_row _ _ 0 _ _ _ (heap_alloc_new y _)⟩
         ·intro x1 y hB hF hP
          obtain ⟨p0,p1,p2,p3,p4,p5,p6,p7,p8,p9,p10,-⟩:=hP
          have hx:=jj hF [(122,.pointer (some ⟨O,2,none⟩)),(123,.pointer (some ⟨O,2,none⟩)),(124,.slice va k vc),(125,.pointer (some ⟨wb,0,none⟩)),(126,.pointer (some ⟨wb,0,none⟩)),(127,.pointer (some ⟨wb,2,none⟩)),(128,.map (some sb)),(129,.pointer (some ⟨X,0,none⟩)),(130,.string a.name),(131,.slice (some ⟨kb,0,none⟩) kl kc),(132,slot x1 132)] rfl ⟨p0,p1,p2,p3,p4,p5,p6,p7,p8,p9,rfl,trivial⟩
          obtain ⟨nb,enb,hnc⟩:=p10
          have enb2:slot x1 132=.slice (some ⟨nb,0,none⟩) 1 1:=enb
          rw [enb2] at hx
          have HOy:=k8 (ji hB HOb.out)
          have HOwy:=k8 (jv HOwn.out hB)
          have HBy:=k8 (HBA.out.trans (hB.mono (by have:=HBA.out.size;omega)))
          have HNc:=k8 hnc
          have hOy:O<y.heap.size:=(wl.1 HOy.out).1
          obtain ⟨i0,hi,hz0,hz1,hz2⟩:=info_parts info_words
          clear hB hF p0 p1 p2 p3 p4 p5 p6 p7 p8 p9 enb enb2 hnc
          subst hx
          simp only [puts,Act.put,we,wg,wi,wj,wk]
          go_wp2_with (at_builtin;go_loud (refine wpList_append_own _ rfl _ _ _ rfl (O+1) 26 i0 _ 1 24 Tryz.underlying27 hi hz0 hz1 hz2 rfl (by omega) _ k _ rfl HOwy.out ⟨nb,0,none⟩ 1 1 [.slice (some ⟨kb,0,none⟩) kl kc] rfl rfl ?ca ?cb ?cc ?cd ?ce ?_))
          case ca=>
           intro j u hj
           cases j with
           | zero=>
            simp only [List.getElem?_cons_zero,Option.some.injEq] at hj
            subst hj
            exact HNc.out
           | succ j=>simp at hj
          case cb=>
           intro u hu
           simp only [wy] at hu
           subst hu
           rfl
          case cc=>have:=HFine.out.many.1;simp only [maxLen];omega
          case cd=>have:=HFine.out.many.1;omega
          case ce=>exact hOy
          intro v1 w5 ho1 hg1 _
          obtain ⟨va',vc',rfl,-,-,-⟩:=own_slices ho1
          have hne:∀ g,(Value.slice va k vc).ownBlock=some g→O+1≤g:=fun g hg=>ks HOwy.out g hg
          have hO1:w5.heap[O]?=_:=(hg1.block O hOy (fun e=>by have:=hne O e.symm;omega)).trans HOy.out
          have hc2:=cell_of_row _ _ 2 _ _ _ hO1
          have hf2:=frozen_of_row _ _ 2 _ _ hO1
          have hcc:w5.cell? ⟨O,2,none⟩=some (.slice va k vc):=hc2
          have hks:Kept [O] w5 (w5.setCell ⟨O,2,none⟩ (.slice va' (k+1) vc')):=(Kept.refl [O] w5).setCell (.inl (by simp)) _
          have hb5:=j6 HBy.out HOwy.out (by omega) (by omega) hg1
          have HB5:=k8 (hb5.trans (hks.below (B:=O) (by have:=hb5.size;omega) (by simp)))
          have HO5:=k8 (heap_setCell_same w5 O 2 _ _ (.slice va' (k+1) vc') hO1)
          have HW5:=k8 (own_keptM ho1 hks (fun g hg=>by have:=ks ho1 g hg;simp;omega))
          have hO5l:=k9 w5 _ hcc
          clear ho1 hg1 hne hO1 hc2 hks hb5
          go_wp2_with fail
          go_roundw
          case rel=>
           exact ⟨k+1,hlt2,by go_num,HB5.out,va',vc',⟨HO5.out,by rw [HTk.out];exact HW5.out⟩⟩
          case measure=>simp [intOf];omega
        ·have hkk2:k=p.secrets.length:=by omega
         subst hkk2
         rw [ww (wo _)] at hvs
         have hs3:=jb hB6 HS3.out
         have hwb6:=k9 wr _ hs3
         have hc3:wr.cell? ⟨w6.heap.size,3,none⟩=some (.slice none 0 0):=cell_of_row _ _ 3 _ _ _ hO
         have hf3:=frozen_of_row _ _ 3 _ _ hO
         have hol:=k9 wr _ hc3
         have hks:Kept [w6.heap.size] wr (wr.setCell ⟨w6.heap.size,3,none⟩ (.slice sa shared.length sc)):=(Kept.refl [w6.heap.size] wr).setCell (.inl (by simp)) _
         have hOs:(wr.setCell ⟨w6.heap.size,3,none⟩ (.slice sa shared.length sc)).heap[w6.heap.size]?=some (.cells #[.int .u64 yval,.slice oa yst.opened.length oc,.slice va p.secrets.length vc,.slice sa shared.length sc] 37 (0,0)):=heap_setCell_same wr w6.heap.size 3 _ _ _ hO
         have h8s:(wr.setCell ⟨w6.heap.size,3,none⟩ (.slice sa shared.length sc)).heap[w.heap.size+2]?=_:=(hks.block (w.heap.size+2) (by omega) (by simp;omega)).trans (ji hB6 H86.out)
         have HB7:=k8 (hB6.trans (hks.below (B:=w6.heap.size) hB6.size (by simp)))
         have HV7:=k8 (own_keptM hvs hks (fun g hg=>by have:=ks hvs g hg;simp;omega))
         have HOs:=k8 hOs
         have H8s:=k8 h8s
         clear hO hvs hks hB6 hOs h8s
         go_wp2_with ((first|refine wpList_load_row rfl 37 _ rfl w6.heap.size rfl _ _ _ _ HOs.out Tryz.underlying37 rfl (by kernel_rfl) ?_|refine wpList_store_row rfl 37 _ _ rfl (w.heap.size+2) #[.int .u64 yval,.slice oa yst.opened.length oc,.slice va p.secrets.length vc,.slice sa shared.length sc] rfl rfl 37 _ H8s.out (by kernel_rfl) rfl (by simp [Value.oneCell']) ?_))
         generalize wr.setCell ⟨w6.heap.size,3,none⟩ (.slice sa shared.length sc)=wz at *
         refine bodyPost_ret (results_cell_tmp_row (P:=Tryz.prog) (p:=8) (u:=9) (ty:=37) rfl _ _ (w.heap.size+2) 37 (#[.int .u64 yval,.slice oa yst.opened.length oc,.slice va p.secrets.length vc,.slice sa shared.length sc]) (0,0) _ rfl (Go.setRow_heap wz _ _ _ _ _ H8s.out) Tryz.underlying37 rfl (by kernel_rfl) _ rfl) rfl ?_
         rw [HY.out]
         exact run_done HFine.out HSl.out HShl.out HR6.out HShp.out HBks.out HN2.out (by omega) (by omega) HO3.out (by have:=HLen.out;exact this) HLe.out HBel6.out HB7.out HV7.out HSc.out HSn.out HBs.out HU6.out H8s.out
end
section
open Go.RowKit
theorem awake_any (w:World) (hg:Glob w):Calls Tryz.prog 10 #[] w (fun e w'=>e=.returned (.bool true)∧Below w.heap.size w w'):=by
 have HG:=k8 hg
 clear hg
 go_enter Tryz.func10,Tryz.ntmps10
 go_upto_region 1 with (fail)
 refine vi [mpQ (.cells #[.int .i64 0,.int .u64 0,.string ⟨#[]⟩,.slice none 0 0] 53) w.heap.size (fun w v=>zl w ((⟨0,3,⟨#[]⟩,[]⟩:Expr)) v),mpQ (.cells #[.int .i64 0,.int .u64 0,.string ⟨#[]⟩,.slice none 0 0] 53) w.heap.size (fun w v=>XsIs w ([(⟨0,3,⟨#[]⟩,[]⟩:Expr)]) v),mpQ (.cells #[.int .i64 0,.int .u64 0,.string ⟨#[]⟩,.slice none 0 0] 53) w.heap.size (fun w v=>zl w ((⟨2,0,⟨#[107]⟩,[(⟨0,3,⟨#[]⟩,[]⟩:Expr)]⟩:Expr)) v),mpNew w.heap.size (.cells #[.int .i64 0,.int .u64 0,.string ⟨#[]⟩,.slice none 0 0] 53)] (by kernel_rfl) 4 (by decide) _ rfl ?_ ?_
 ·refine ⟨?_,?_,?_,?_,trivial⟩
  ·refine zq rfl rfl fun x1 y hB hF hD=>?_
   clear hB hF
   refine ⟨.agg #[.int .i64 0,.int .u64 3,.string ⟨#[]⟩,.slice none 0 0],?_,fun w' hw=>expr_mk 0 3 ⟨#[]⟩ (l:=[]) (Sl.nil _ _ _ _) (by unfold I64;first|omega|(simp only;omega)) (by unfold U64;first|omega|(simp only;omega)) (by decide)⟩
   simp only [execOp]
   simp [go_sem]
  ·refine jr rfl fun x1 y hB hF hD=>?_
   obtain ⟨d0,-⟩:=hD
   have q8:∀ w',But (.cells #[.int .i64 0,.int .u64 0,.string ⟨#[]⟩,.slice none 0 0] 53) w.heap.size y w'→zl w' ((⟨0,3,⟨#[]⟩,[]⟩:Expr)) (slot x1 8):=d0 rfl
   obtain ⟨a8_0,c8_0,e8,-⟩:=q8 y (But.refl _ _ _)
   have e8:slot x1 8=.agg #[.int .i64 0,.int .u64 3,.string ⟨#[]⟩,.slice a8_0 0 c8_0]:=e8
   have g8:=jh e8
   simp only [e8] at q8
   clear hB hF
   unfold Oper.wp
   simp only [execOp]
   simp [go_sem,g8]
   refine ⟨_,rfl,(wu _ _).alloc (wo _) _,fun w' hw=>?_⟩
   exact sl_row exprAt_of (hw.new (by simp)) [((⟨0,3,⟨#[]⟩,[]⟩:Expr),_)] ⟨q8 w' hw.of_alloc,trivial⟩ rfl (by simp)
  ·refine zq rfl rfl fun x1 y hB hF hD=>?_
   obtain ⟨d0,-⟩:=hD
   have q9:∀ w',But (.cells #[.int .i64 0,.int .u64 0,.string ⟨#[]⟩,.slice none 0 0] 53) w.heap.size y w'→XsIs w' ([(⟨0,3,⟨#[]⟩,[]⟩:Expr)]) (slot x1 9):=d0 rfl
   obtain ⟨a9_0,c9_0,e9⟩:=yb (q9 y (But.refl _ _ _))
   have e9:slot x1 9=.slice a9_0 1 c9_0:=e9
   have g9:=jh e9
   simp only [e9] at q9
   clear hB hF
   refine ⟨.agg #[.int .i64 2,.int .u64 0,.string ⟨#[107]⟩,.slice a9_0 1 c9_0],?_,fun w' hw=>expr_mk 2 0 ⟨#[107]⟩ (l:=[(⟨0,3,⟨#[]⟩,[]⟩:Expr)]) (q9 w' hw) (by unfold I64;first|omega|(simp only;omega)) (by unfold U64;first|omega|(simp only;omega)) (by decide)⟩
   simp only [execOp]
   simp [go_sem,g9]
  ·refine jr rfl fun x1 y hB hF hD=>?_
   unfold Oper.wp
   simp only [execOp]
   simp [go_sem]
   exact ⟨_,rfl,(wu _ _).alloc (wo _) _,y.heap.size,rfl,hB.size,Go.heap_alloc_new y _⟩
 ·intro x1 y hB hF hP
  obtain ⟨p0,p1,p2,p3,-⟩:=hP
  have q10:∀ w',But (.cells #[.int .i64 0,.int .u64 0,.string ⟨#[]⟩,.slice none 0 0] 53) w.heap.size y w'→zl w' ((⟨2,0,⟨#[107]⟩,[(⟨0,3,⟨#[]⟩,[]⟩:Expr)]⟩:Expr)) (slot x1 10):=p2
  obtain ⟨a10_0,c10_0,e10,-⟩:=q10 y (But.refl _ _ _)
  have e10:slot x1 10=.agg #[.int .i64 2,.int .u64 0,.string ⟨#[107]⟩,.slice a10_0 1 c10_0]:=e10
  have g10:=jh e10
  simp only [e10] at q10
  obtain ⟨b1,ex,hbx,hbz⟩:=p3
  have ex:slot x1 1=.pointer (some ⟨b1,0,none⟩):=ex
  have hx:=jj hF [(8,slot x1 8),(9,slot x1 9),(10,.agg #[.int .i64 2,.int .u64 0,.string ⟨#[107]⟩,.slice a10_0 1 c10_0]),(1,.pointer (some ⟨b1,0,none⟩))] rfl ⟨rfl,rfl,e10,ex,trivial⟩
  clear hF p0 p1 p2
  clear e10 g10
  generalize slot x1 8=u8 at *
  generalize slot x1 9=u9 at *
  subst hx
  simp only [puts,Act.put,we,wg,wi,wj,wk]
  have HZb:=k8 hbz
  have HX1:=k8 (q10 _ (But.setRow (cs:=#[.int .i64 2,.int .u64 0,.string ⟨#[107]⟩,.slice a10_0 1 c10_0]) hbz hbx))
  have HK1:=k8 (Go.setRow_heap y b1 _ #[.int .i64 2,.int .u64 0,.string ⟨#[107]⟩,.slice a10_0 1 c10_0] _ _ hbz)
  have HB1:=k8 (below_setRow hB hbx #[.int .i64 2,.int .u64 0,.string ⟨#[107]⟩,.slice a10_0 1 c10_0])
  clear hbz hbx q10 hB
  refine wpList_store_row rfl 53 _ _ rfl b1 #[.int .i64 2,.int .u64 0,.string ⟨#[107]⟩,.slice a10_0 1 c10_0] rfl rfl 53 _ HZb.out (by kernel_rfl) rfl (by simp [Value.oneCell']) ?_
  clear HZb
  generalize y.setRow b1 #[.int .i64 2,.int .u64 0,.string ⟨#[107]⟩,.slice a10_0 1 c10_0]=w1 at *
  go_upto_region 2 with (fail)
  refine vi [mpQ (.cells #[] 53) w1.heap.size (fun w v=>zl w ((⟨1,0,⟨#[105]⟩,[]⟩:Expr)) v),mpQ (.cells #[] 53) w1.heap.size (fun w v=>zl w ((⟨0,5,⟨#[]⟩,[]⟩:Expr)) v),mpQ (.cells #[] 53) w1.heap.size (fun w v=>XsIs w ([(⟨1,0,⟨#[105]⟩,[]⟩:Expr),(⟨0,5,⟨#[]⟩,[]⟩:Expr)]) v),mpQ (.cells #[] 53) w1.heap.size (fun w v=>yn w ((⟨1,⟨#[107]⟩,0,[(⟨1,0,⟨#[105]⟩,[]⟩:Expr),(⟨0,5,⟨#[]⟩,[]⟩:Expr)],[],[]⟩:Stmt)) v),mpQ (.cells #[] 53) w1.heap.size (fun w v=>zl w ((⟨2,0,⟨#[107]⟩,[(⟨0,3,⟨#[]⟩,[]⟩:Expr)]⟩:Expr)) v),mpQ (.cells #[] 53) w1.heap.size (fun w v=>XsIs w ([(⟨2,0,⟨#[107]⟩,[(⟨0,3,⟨#[]⟩,[]⟩:Expr)]⟩:Expr)]) v),mpQ (.cells #[] 53) w1.heap.size (fun w v=>zl w ((⟨6,0,⟨#[]⟩,[(⟨2,0,⟨#[107]⟩,[(⟨0,3,⟨#[]⟩,[]⟩:Expr)]⟩:Expr)]⟩:Expr)) v),mpQ (.cells #[] 53) w1.heap.size (fun w v=>XsIs w ([(⟨6,0,⟨#[]⟩,[(⟨2,0,⟨#[107]⟩,[(⟨0,3,⟨#[]⟩,[]⟩:Expr)]⟩:Expr)]⟩:Expr)]) v),mpQ (.cells #[] 53) w1.heap.size (fun w v=>yn w ((⟨4,⟨#[]⟩,0,[(⟨6,0,⟨#[]⟩,[(⟨2,0,⟨#[107]⟩,[(⟨0,3,⟨#[]⟩,[]⟩:Expr)]⟩:Expr)]⟩:Expr)],[],[]⟩:Stmt)) v),mpQ (.cells #[] 53) w1.heap.size (fun w v=>SsIs w ([(⟨1,⟨#[107]⟩,0,[(⟨1,0,⟨#[105]⟩,[]⟩:Expr),(⟨0,5,⟨#[]⟩,[]⟩:Expr)],[],[]⟩:Stmt),(⟨4,⟨#[]⟩,0,[(⟨6,0,⟨#[]⟩,[(⟨2,0,⟨#[107]⟩,[(⟨0,3,⟨#[]⟩,[]⟩:Expr)]⟩:Expr)]⟩:Expr)],[],[]⟩:Stmt)]) v)] (by kernel_rfl) 10 (by decide) _ rfl ?_ ?_
  ·refine ⟨?_,?_,?_,?_,?_,?_,?_,?_,?_,?_,trivial⟩
   ·refine zq rfl rfl fun x1 y hB hF hD=>?_
    clear hB hF
    refine ⟨.agg #[.int .i64 1,.int .u64 0,.string ⟨#[105]⟩,.slice none 0 0],?_,fun w' hw=>expr_mk 1 0 ⟨#[105]⟩ (l:=[]) (Sl.nil _ _ _ _) (by unfold I64;first|omega|(simp only;omega)) (by unfold U64;first|omega|(simp only;omega)) (by decide)⟩
    simp only [execOp]
    simp [go_sem]
   ·refine zq rfl rfl fun x1 y hB hF hD=>?_
    clear hB hF
    refine ⟨.agg #[.int .i64 0,.int .u64 5,.string ⟨#[]⟩,.slice none 0 0],?_,fun w' hw=>expr_mk 0 5 ⟨#[]⟩ (l:=[]) (Sl.nil _ _ _ _) (by unfold I64;first|omega|(simp only;omega)) (by unfold U64;first|omega|(simp only;omega)) (by decide)⟩
    simp only [execOp]
    simp [go_sem]
   ·refine jr rfl fun x1 y hB hF hD=>?_
    obtain ⟨d0,d1,-⟩:=hD
    have q11:∀ w',But (.cells #[] 53) w1.heap.size y w'→zl w' ((⟨1,0,⟨#[105]⟩,[]⟩:Expr)) (slot x1 11):=d0 rfl
    obtain ⟨a11_0,c11_0,e11,-⟩:=q11 y (But.refl _ _ _)
    have e11:slot x1 11=.agg #[.int .i64 1,.int .u64 0,.string ⟨#[105]⟩,.slice a11_0 0 c11_0]:=e11
    have g11:=jh e11
    simp only [e11] at q11
    have q12:∀ w',But (.cells #[] 53) w1.heap.size y w'→zl w' ((⟨0,5,⟨#[]⟩,[]⟩:Expr)) (slot x1 12):=d1 rfl
    obtain ⟨a12_0,c12_0,e12,-⟩:=q12 y (But.refl _ _ _)
    have e12:slot x1 12=.agg #[.int .i64 0,.int .u64 5,.string ⟨#[]⟩,.slice a12_0 0 c12_0]:=e12
    have g12:=jh e12
    simp only [e12] at q12
    clear hB hF
    unfold Oper.wp
    simp only [execOp]
    simp [go_sem,g11,g12]
    refine ⟨_,rfl,(wu _ _).alloc (wo _) _,fun w' hw=>?_⟩
    exact sl_row exprAt_of (hw.new (by simp)) [((⟨1,0,⟨#[105]⟩,[]⟩:Expr),_),((⟨0,5,⟨#[]⟩,[]⟩:Expr),_)] ⟨q11 w' hw.of_alloc,q12 w' hw.of_alloc,trivial⟩ rfl (by simp)
   ·refine zq rfl rfl fun x1 y hB hF hD=>?_
    obtain ⟨d0,-⟩:=hD
    have q13:∀ w',But (.cells #[] 53) w1.heap.size y w'→XsIs w' ([(⟨1,0,⟨#[105]⟩,[]⟩:Expr),(⟨0,5,⟨#[]⟩,[]⟩:Expr)]) (slot x1 13):=d0 rfl
    obtain ⟨a13_0,c13_0,e13⟩:=yb (q13 y (But.refl _ _ _))
    have e13:slot x1 13=.slice a13_0 2 c13_0:=e13
    have g13:=jh e13
    simp only [e13] at q13
    clear hB hF
    refine ⟨.agg #[.int .i64 1,.string ⟨#[107]⟩,.int .i64 0,.slice a13_0 2 c13_0,.slice none 0 0,.slice none 0 0],?_,fun w' hw=>stmt_mk 1 0 ⟨#[107]⟩ (l:=[(⟨1,0,⟨#[105]⟩,[]⟩:Expr),(⟨0,5,⟨#[]⟩,[]⟩:Expr)]) (t:=[]) (e:=[]) (q13 w' hw) (Sl.nil _ _ _ _) (Sl.nil _ _ _ _) (by unfold I64;first|omega|(simp only;omega)) (by unfold I64;first|omega|(simp only;omega)) (by decide)⟩
    simp only [execOp]
    simp [go_sem,g13]
   ·refine zq rfl rfl fun x1 y hB hF hD=>?_
    have e1:slot x1 1=.pointer (some ⟨b1,0,none⟩):=hF.at 1 rfl
    have hb:=ji hB HK1.out
    refine ⟨.agg #[.int .i64 2,.int .u64 0,.string ⟨#[107]⟩,.slice a10_0 1 c10_0],?_,fun w' hw=>HX1.out.below (hw.base hB (wo _))⟩
    clear hB hF
    simp only [execOp,ja,e1]
    simp [run_load_box y _ _ 53 _ _ _ hb Tryz.underlying53 rfl (by kernel_rfl),Result.andThen]
   ·refine jr rfl fun x1 y hB hF hD=>?_
    obtain ⟨d0,-⟩:=hD
    have q15:∀ w',But (.cells #[] 53) w1.heap.size y w'→zl w' ((⟨2,0,⟨#[107]⟩,[(⟨0,3,⟨#[]⟩,[]⟩:Expr)]⟩:Expr)) (slot x1 15):=d0 rfl
    obtain ⟨a15_0,c15_0,e15,-⟩:=q15 y (But.refl _ _ _)
    have e15:slot x1 15=.agg #[.int .i64 2,.int .u64 0,.string ⟨#[107]⟩,.slice a15_0 1 c15_0]:=e15
    have g15:=jh e15
    simp only [e15] at q15
    clear hB hF
    unfold Oper.wp
    simp only [execOp]
    simp [go_sem,g15]
    refine ⟨_,rfl,(wu _ _).alloc (wo _) _,fun w' hw=>?_⟩
    exact sl_row exprAt_of (hw.new (by simp)) [((⟨2,0,⟨#[107]⟩,[(⟨0,3,⟨#[]⟩,[]⟩:Expr)]⟩:Expr),_)] ⟨q15 w' hw.of_alloc,trivial⟩ rfl (by simp)
   ·refine zq rfl rfl fun x1 y hB hF hD=>?_
    obtain ⟨d0,-⟩:=hD
    have q16:∀ w',But (.cells #[] 53) w1.heap.size y w'→XsIs w' ([(⟨2,0,⟨#[107]⟩,[(⟨0,3,⟨#[]⟩,[]⟩:Expr)]⟩:Expr)]) (slot x1 16):=d0 rfl
    obtain ⟨a16_0,c16_0,e16⟩:=yb (q16 y (But.refl _ _ _))
    have e16:slot x1 16=.slice a16_0 1 c16_0:=e16
    have g16:=jh e16
    simp only [e16] at q16
    clear hB hF
    refine ⟨.agg #[.int .i64 6,.int .u64 0,.string ⟨#[]⟩,.slice a16_0 1 c16_0],?_,fun w' hw=>expr_mk 6 0 ⟨#[]⟩ (l:=[(⟨2,0,⟨#[107]⟩,[(⟨0,3,⟨#[]⟩,[]⟩:Expr)]⟩:Expr)]) (q16 w' hw) (by unfold I64;first|omega|(simp only;omega)) (by unfold U64;first|omega|(simp only;omega)) (by decide)⟩
    simp only [execOp]
    simp [go_sem,g16]
   ·refine jr rfl fun x1 y hB hF hD=>?_
    obtain ⟨d0,-⟩:=hD
    have q17:∀ w',But (.cells #[] 53) w1.heap.size y w'→zl w' ((⟨6,0,⟨#[]⟩,[(⟨2,0,⟨#[107]⟩,[(⟨0,3,⟨#[]⟩,[]⟩:Expr)]⟩:Expr)]⟩:Expr)) (slot x1 17):=d0 rfl
    obtain ⟨a17_0,c17_0,e17,-⟩:=q17 y (But.refl _ _ _)
    have e17:slot x1 17=.agg #[.int .i64 6,.int .u64 0,.string ⟨#[]⟩,.slice a17_0 1 c17_0]:=e17
    have g17:=jh e17
    simp only [e17] at q17
    clear hB hF
    unfold Oper.wp
    simp only [execOp]
    simp [go_sem,g17]
    refine ⟨_,rfl,(wu _ _).alloc (wo _) _,fun w' hw=>?_⟩
    exact sl_row exprAt_of (hw.new (by simp)) [((⟨6,0,⟨#[]⟩,[(⟨2,0,⟨#[107]⟩,[(⟨0,3,⟨#[]⟩,[]⟩:Expr)]⟩:Expr)]⟩:Expr),_)] ⟨q17 w' hw.of_alloc,trivial⟩ rfl (by simp)
   ·refine zq rfl rfl fun x1 y hB hF hD=>?_
    obtain ⟨d0,-⟩:=hD
    have q18:∀ w',But (.cells #[] 53) w1.heap.size y w'→XsIs w' ([(⟨6,0,⟨#[]⟩,[(⟨2,0,⟨#[107]⟩,[(⟨0,3,⟨#[]⟩,[]⟩:Expr)]⟩:Expr)]⟩:Expr)]) (slot x1 18):=d0 rfl
    obtain ⟨a18_0,c18_0,e18⟩:=yb (q18 y (But.refl _ _ _))
    have e18:slot x1 18=.slice a18_0 1 c18_0:=e18
    have g18:=jh e18
    simp only [e18] at q18
    clear hB hF
    refine ⟨.agg #[.int .i64 4,.string ⟨#[]⟩,.int .i64 0,.slice a18_0 1 c18_0,.slice none 0 0,.slice none 0 0],?_,fun w' hw=>stmt_mk 4 0 ⟨#[]⟩ (l:=[(⟨6,0,⟨#[]⟩,[(⟨2,0,⟨#[107]⟩,[(⟨0,3,⟨#[]⟩,[]⟩:Expr)]⟩:Expr)]⟩:Expr)]) (t:=[]) (e:=[]) (q18 w' hw) (Sl.nil _ _ _ _) (Sl.nil _ _ _ _) (by unfold I64;first|omega|(simp only;omega)) (by unfold I64;first|omega|(simp only;omega)) (by decide)⟩
    simp only [execOp]
    simp [go_sem,g18]
   ·refine jr rfl fun x1 y hB hF hD=>?_
    obtain ⟨d0,d1,-⟩:=hD
    have q14:∀ w',But (.cells #[] 53) w1.heap.size y w'→yn w' ((⟨1,⟨#[107]⟩,0,[(⟨1,0,⟨#[105]⟩,[]⟩:Expr),(⟨0,5,⟨#[]⟩,[]⟩:Expr)],[],[]⟩:Stmt)) (slot x1 14):=d0 rfl
    obtain ⟨a14_0,c14_0,a14_1,c14_1,a14_2,c14_2,e14,-⟩:=q14 y (But.refl _ _ _)
    have e14:slot x1 14=.agg #[.int .i64 1,.string ⟨#[107]⟩,.int .i64 0,.slice a14_0 2 c14_0,.slice a14_1 0 c14_1,.slice a14_2 0 c14_2]:=e14
    have g14:=jh e14
    simp only [e14] at q14
    have q19:∀ w',But (.cells #[] 53) w1.heap.size y w'→yn w' ((⟨4,⟨#[]⟩,0,[(⟨6,0,⟨#[]⟩,[(⟨2,0,⟨#[107]⟩,[(⟨0,3,⟨#[]⟩,[]⟩:Expr)]⟩:Expr)]⟩:Expr)],[],[]⟩:Stmt)) (slot x1 19):=d1 rfl
    obtain ⟨a19_0,c19_0,a19_1,c19_1,a19_2,c19_2,e19,-⟩:=q19 y (But.refl _ _ _)
    have e19:slot x1 19=.agg #[.int .i64 4,.string ⟨#[]⟩,.int .i64 0,.slice a19_0 1 c19_0,.slice a19_1 0 c19_1,.slice a19_2 0 c19_2]:=e19
    have g19:=jh e19
    simp only [e19] at q19
    clear hB hF
    unfold Oper.wp
    simp only [execOp]
    simp [go_sem,g14,g19]
    refine ⟨_,rfl,(wu _ _).alloc (wo _) _,fun w' hw=>?_⟩
    exact sl_row stmtAt_of (hw.new (by simp)) [((⟨1,⟨#[107]⟩,0,[(⟨1,0,⟨#[105]⟩,[]⟩:Expr),(⟨0,5,⟨#[]⟩,[]⟩:Expr)],[],[]⟩:Stmt),_),((⟨4,⟨#[]⟩,0,[(⟨6,0,⟨#[]⟩,[(⟨2,0,⟨#[107]⟩,[(⟨0,3,⟨#[]⟩,[]⟩:Expr)]⟩:Expr)]⟩:Expr)],[],[]⟩:Stmt),_)] ⟨q14 w' hw.of_alloc,q19 w' hw.of_alloc,trivial⟩ rfl (by simp)
  ·intro x1 w2 hB hF hP
   obtain ⟨p0,p1,p2,p3,p4,p5,p6,p7,p8,p9,-⟩:=hP
   have q20:∀ w',But (.cells #[] 53) w1.heap.size w2 w'→SsIs w' ([(⟨1,⟨#[107]⟩,0,[(⟨1,0,⟨#[105]⟩,[]⟩:Expr),(⟨0,5,⟨#[]⟩,[]⟩:Expr)],[],[]⟩:Stmt),(⟨4,⟨#[]⟩,0,[(⟨6,0,⟨#[]⟩,[(⟨2,0,⟨#[107]⟩,[(⟨0,3,⟨#[]⟩,[]⟩:Expr)]⟩:Expr)]⟩:Expr)],[],[]⟩:Stmt)]) (slot x1 20):=p9
   obtain ⟨a20_0,c20_0,e20⟩:=yb (q20 w2 (But.refl _ _ _))
   have e20:slot x1 20=.slice a20_0 2 c20_0:=e20
   have g20:=jh e20
   simp only [e20] at q20
   have hx:=jj hF [(11,slot x1 11),(12,slot x1 12),(13,slot x1 13),(14,slot x1 14),(15,slot x1 15),(16,slot x1 16),(17,slot x1 17),(18,slot x1 18),(19,slot x1 19),(20,.slice a20_0 2 c20_0)] rfl ⟨rfl,rfl,rfl,rfl,rfl,rfl,rfl,rfl,rfl,e20,trivial⟩
   clear hF p0 p1 p2 p3 p4 p5 p6 p7 p8 p9
   clear e20 g20
   generalize slot x1 11=u11 at *
   generalize slot x1 12=u12 at *
   generalize slot x1 13=u13 at *
   generalize slot x1 14=u14 at *
   generalize slot x1 15=u15 at *
   generalize slot x1 16=u16 at *
   generalize slot x1 17=u17 at *
   generalize slot x1 18=u18 at *
   generalize slot x1 19=u19 at *
   subst hx
   simp only [puts,Act.put,we,wg,wi,wj,wk]
   have HS2:=k8 (q20 w2 (But.refl _ _ _))
   have HB2:=k8 (HB1.out.trans (hB.mono HB1.out.size))
   clear hB q20 HB1 HK1 HX1
   go_upto_region 3 with (fail)
   refine vi [mpQ (.cells #[.slice none 0 0,.slice none 0 0] 25) w2.heap.size (fun w v=>ArrIs w ((⟨⟨#[107]⟩,2⟩:Arr)) v),mpQ (.cells #[.slice none 0 0,.slice none 0 0] 25) w2.heap.size (fun w v=>AsIs w ([(⟨⟨#[107]⟩,2⟩:Arr)]) v),mpQ (.cells #[.slice none 0 0,.slice none 0 0] 25) w2.heap.size (fun w v=>ParamIs w ((⟨⟨#[105]⟩,0,0⟩:z8)) v),mpQ (.cells #[.slice none 0 0,.slice none 0 0] 25) w2.heap.size (fun w v=>PsIs w ([(⟨⟨#[105]⟩,0,0⟩:z8)]) v),mpQ (.cells #[.slice none 0 0,.slice none 0 0] 25) w2.heap.size (fun w v=>SsIs w ([(⟨1,⟨#[107]⟩,0,[(⟨1,0,⟨#[105]⟩,[]⟩:Expr),(⟨0,5,⟨#[]⟩,[]⟩:Expr)],[],[]⟩:Stmt),(⟨4,⟨#[]⟩,0,[(⟨6,0,⟨#[]⟩,[(⟨2,0,⟨#[107]⟩,[(⟨0,3,⟨#[]⟩,[]⟩:Expr)]⟩:Expr)]⟩:Expr)],[],[]⟩:Stmt)]) v),mpQ (.cells #[.slice none 0 0,.slice none 0 0] 25) w2.heap.size (fun w v=>FunIs w ((⟨⟨#[102]⟩,true,[(⟨⟨#[105]⟩,0,0⟩:z8)],[(⟨1,⟨#[107]⟩,0,[(⟨1,0,⟨#[105]⟩,[]⟩:Expr),(⟨0,5,⟨#[]⟩,[]⟩:Expr)],[],[]⟩:Stmt),(⟨4,⟨#[]⟩,0,[(⟨6,0,⟨#[]⟩,[(⟨2,0,⟨#[107]⟩,[(⟨0,3,⟨#[]⟩,[]⟩:Expr)]⟩:Expr)]⟩:Expr)],[],[]⟩:Stmt)]⟩:Fun)) v),mpQ (.cells #[.slice none 0 0,.slice none 0 0] 25) w2.heap.size (fun w v=>FsIs w ([(⟨⟨#[102]⟩,true,[(⟨⟨#[105]⟩,0,0⟩:z8)],[(⟨1,⟨#[107]⟩,0,[(⟨1,0,⟨#[105]⟩,[]⟩:Expr),(⟨0,5,⟨#[]⟩,[]⟩:Expr)],[],[]⟩:Stmt),(⟨4,⟨#[]⟩,0,[(⟨6,0,⟨#[]⟩,[(⟨2,0,⟨#[107]⟩,[(⟨0,3,⟨#[]⟩,[]⟩:Expr)]⟩:Expr)]⟩:Expr)],[],[]⟩:Stmt)]⟩:Fun)]) v),mpQ (.cells #[.slice none 0 0,.slice none 0 0] 25) w2.heap.size (fun w v=>kn w ((⟨[(⟨⟨#[107]⟩,2⟩:Arr)],[(⟨⟨#[102]⟩,true,[(⟨⟨#[105]⟩,0,0⟩:z8)],[(⟨1,⟨#[107]⟩,0,[(⟨1,0,⟨#[105]⟩,[]⟩:Expr),(⟨0,5,⟨#[]⟩,[]⟩:Expr)],[],[]⟩:Stmt),(⟨4,⟨#[]⟩,0,[(⟨6,0,⟨#[]⟩,[(⟨2,0,⟨#[107]⟩,[(⟨0,3,⟨#[]⟩,[]⟩:Expr)]⟩:Expr)]⟩:Expr)],[],[]⟩:Stmt)]⟩:Fun)]⟩:Src)) v),mpNew w2.heap.size (.cells #[.slice none 0 0,.slice none 0 0] 25)] (by kernel_rfl) 9 (by decide) _ rfl ?_ ?_
   ·refine ⟨?_,?_,?_,?_,?_,?_,?_,?_,?_,trivial⟩
    ·refine zq rfl rfl fun x1 y hB hF hD=>?_
     clear hB hF
     refine ⟨.agg #[.string ⟨#[107]⟩,.int .i64 2],?_,fun w' hw=>⟨rfl,(by decide),(by unfold I64;first|omega|(simp only;omega))⟩⟩
     simp only [execOp]
     simp [go_sem]
    ·refine jr rfl fun x1 y hB hF hD=>?_
     obtain ⟨d0,-⟩:=hD
     have q21:∀ w',But (.cells #[.slice none 0 0,.slice none 0 0] 25) w2.heap.size y w'→ArrIs w' ((⟨⟨#[107]⟩,2⟩:Arr)) (slot x1 21):=d0 rfl
     obtain ⟨e21,-⟩:=q21 y (But.refl _ _ _)
     have e21:slot x1 21=.agg #[.string ⟨#[107]⟩,.int .i64 2]:=e21
     have g21:=jh e21
     simp only [e21] at q21
     clear hB hF
     unfold Oper.wp
     simp only [execOp]
     simp [go_sem,g21]
     refine ⟨_,rfl,(wu _ _).alloc (wo _) _,fun w' hw=>?_⟩
     exact sl_row arrAt_of (hw.new (by simp)) [((⟨⟨#[107]⟩,2⟩:Arr),_)] ⟨q21 w' hw.of_alloc,trivial⟩ rfl (by simp)
    ·refine zq rfl rfl fun x1 y hB hF hD=>?_
     clear hB hF
     refine ⟨.agg #[.string ⟨#[105]⟩,.int .i64 0,.int .i64 0],?_,fun w' hw=>⟨rfl,(by decide),(by unfold I64;first|omega|(simp only;omega)),(by unfold I64;first|omega|(simp only;omega))⟩⟩
     simp only [execOp]
     simp [go_sem]
    ·refine jr rfl fun x1 y hB hF hD=>?_
     obtain ⟨d0,-⟩:=hD
     have q23:∀ w',But (.cells #[.slice none 0 0,.slice none 0 0] 25) w2.heap.size y w'→ParamIs w' ((⟨⟨#[105]⟩,0,0⟩:z8)) (slot x1 23):=d0 rfl
     obtain ⟨e23,-⟩:=q23 y (But.refl _ _ _)
     have e23:slot x1 23=.agg #[.string ⟨#[105]⟩,.int .i64 0,.int .i64 0]:=e23
     have g23:=jh e23
     simp only [e23] at q23
     clear hB hF
     unfold Oper.wp
     simp only [execOp]
     simp [go_sem,g23]
     refine ⟨_,rfl,(wu _ _).alloc (wo _) _,fun w' hw=>?_⟩
     exact sl_row paramAt_of (hw.new (by simp)) [((⟨⟨#[105]⟩,0,0⟩:z8),_)] ⟨q23 w' hw.of_alloc,trivial⟩ rfl (by simp)
    ·refine zq rfl rfl fun x1 y hB hF hD=>?_
     have e2:slot x1 2=.slice a20_0 2 c20_0:=hF.at 2 rfl
     refine ⟨.slice a20_0 2 c20_0,?_,fun w' hw=>ss_below HS2.out (hw.base hB (wo _))⟩
     clear hB hF
     simp only [execOp,ja,e2]
     rfl
    ·refine zq rfl rfl fun x1 y hB hF hD=>?_
     obtain ⟨d0,d1,-⟩:=hD
     have q24:∀ w',But (.cells #[.slice none 0 0,.slice none 0 0] 25) w2.heap.size y w'→PsIs w' ([(⟨⟨#[105]⟩,0,0⟩:z8)]) (slot x1 24):=d0 rfl
     obtain ⟨a24_0,c24_0,e24⟩:=yb (q24 y (But.refl _ _ _))
     have e24:slot x1 24=.slice a24_0 1 c24_0:=e24
     have g24:=jh e24
     simp only [e24] at q24
     have q25:∀ w',But (.cells #[.slice none 0 0,.slice none 0 0] 25) w2.heap.size y w'→SsIs w' ([(⟨1,⟨#[107]⟩,0,[(⟨1,0,⟨#[105]⟩,[]⟩:Expr),(⟨0,5,⟨#[]⟩,[]⟩:Expr)],[],[]⟩:Stmt),(⟨4,⟨#[]⟩,0,[(⟨6,0,⟨#[]⟩,[(⟨2,0,⟨#[107]⟩,[(⟨0,3,⟨#[]⟩,[]⟩:Expr)]⟩:Expr)]⟩:Expr)],[],[]⟩:Stmt)]) (slot x1 25):=d1 rfl
     obtain ⟨a25_0,c25_0,e25⟩:=yb (q25 y (But.refl _ _ _))
     have e25:slot x1 25=.slice a25_0 2 c25_0:=e25
     have g25:=jh e25
     simp only [e25] at q25
     clear hB hF
     refine ⟨.agg #[.string ⟨#[102]⟩,.bool true,.slice a24_0 1 c24_0,.slice a25_0 2 c25_0],?_,fun w' hw=>fun_mk ⟨#[102]⟩ true (ps:=[(⟨⟨#[105]⟩,0,0⟩:z8)]) (b:=[(⟨1,⟨#[107]⟩,0,[(⟨1,0,⟨#[105]⟩,[]⟩:Expr),(⟨0,5,⟨#[]⟩,[]⟩:Expr)],[],[]⟩:Stmt),(⟨4,⟨#[]⟩,0,[(⟨6,0,⟨#[]⟩,[(⟨2,0,⟨#[107]⟩,[(⟨0,3,⟨#[]⟩,[]⟩:Expr)]⟩:Expr)]⟩:Expr)],[],[]⟩:Stmt)]) (q24 w' hw) (q25 w' hw) (by decide)⟩
     simp only [execOp]
     simp [go_sem,g24,g25]
    ·refine jr rfl fun x1 y hB hF hD=>?_
     obtain ⟨d0,-⟩:=hD
     have q26:∀ w',But (.cells #[.slice none 0 0,.slice none 0 0] 25) w2.heap.size y w'→FunIs w' ((⟨⟨#[102]⟩,true,[(⟨⟨#[105]⟩,0,0⟩:z8)],[(⟨1,⟨#[107]⟩,0,[(⟨1,0,⟨#[105]⟩,[]⟩:Expr),(⟨0,5,⟨#[]⟩,[]⟩:Expr)],[],[]⟩:Stmt),(⟨4,⟨#[]⟩,0,[(⟨6,0,⟨#[]⟩,[(⟨2,0,⟨#[107]⟩,[(⟨0,3,⟨#[]⟩,[]⟩:Expr)]⟩:Expr)]⟩:Expr)],[],[]⟩:Stmt)]⟩:Fun)) (slot x1 26):=d0 rfl
     obtain ⟨a26_0,c26_0,a26_1,c26_1,e26,-⟩:=q26 y (But.refl _ _ _)
     have e26:slot x1 26=.agg #[.string ⟨#[102]⟩,.bool true,.slice a26_0 1 c26_0,.slice a26_1 2 c26_1]:=e26
     have g26:=jh e26
     simp only [e26] at q26
     clear hB hF
     unfold Oper.wp
     simp only [execOp]
     simp [go_sem,g26]
     refine ⟨_,rfl,(wu _ _).alloc (wo _) _,fun w' hw=>?_⟩
     exact sl_row funAt_of (hw.new (by simp)) [((⟨⟨#[102]⟩,true,[(⟨⟨#[105]⟩,0,0⟩:z8)],[(⟨1,⟨#[107]⟩,0,[(⟨1,0,⟨#[105]⟩,[]⟩:Expr),(⟨0,5,⟨#[]⟩,[]⟩:Expr)],[],[]⟩:Stmt),(⟨4,⟨#[]⟩,0,[(⟨6,0,⟨#[]⟩,[(⟨2,0,⟨#[107]⟩,[(⟨0,3,⟨#[]⟩,[]⟩:Expr)]⟩:Expr)]⟩:Expr)],[],[]⟩:Stmt)]⟩:Fun),_)] ⟨q26 w' hw.of_alloc,trivial⟩ rfl (by simp)
    ·refine zq rfl rfl fun x1 y hB hF hD=>?_
     obtain ⟨d0,d1,-⟩:=hD
     have q22:∀ w',But (.cells #[.slice none 0 0,.slice none 0 0] 25) w2.heap.size y w'→AsIs w' ([(⟨⟨#[107]⟩,2⟩:Arr)]) (slot x1 22):=d0 rfl
     obtain ⟨a22_0,c22_0,e22⟩:=yb (q22 y (But.refl _ _ _))
     have e22:slot x1 22=.slice a22_0 1 c22_0:=e22
     have g22:=jh e22
     simp only [e22] at q22
     have q27:∀ w',But (.cells #[.slice none 0 0,.slice none 0 0] 25) w2.heap.size y w'→FsIs w' ([(⟨⟨#[102]⟩,true,[(⟨⟨#[105]⟩,0,0⟩:z8)],[(⟨1,⟨#[107]⟩,0,[(⟨1,0,⟨#[105]⟩,[]⟩:Expr),(⟨0,5,⟨#[]⟩,[]⟩:Expr)],[],[]⟩:Stmt),(⟨4,⟨#[]⟩,0,[(⟨6,0,⟨#[]⟩,[(⟨2,0,⟨#[107]⟩,[(⟨0,3,⟨#[]⟩,[]⟩:Expr)]⟩:Expr)]⟩:Expr)],[],[]⟩:Stmt)]⟩:Fun)]) (slot x1 27):=d1 rfl
     obtain ⟨a27_0,c27_0,e27⟩:=yb (q27 y (But.refl _ _ _))
     have e27:slot x1 27=.slice a27_0 1 c27_0:=e27
     have g27:=jh e27
     simp only [e27] at q27
     clear hB hF
     refine ⟨.agg #[.slice a22_0 1 c22_0,.slice a27_0 1 c27_0],?_,fun w' hw=>src_mk (l:=[(⟨⟨#[107]⟩,2⟩:Arr)]) (fs:=[(⟨⟨#[102]⟩,true,[(⟨⟨#[105]⟩,0,0⟩:z8)],[(⟨1,⟨#[107]⟩,0,[(⟨1,0,⟨#[105]⟩,[]⟩:Expr),(⟨0,5,⟨#[]⟩,[]⟩:Expr)],[],[]⟩:Stmt),(⟨4,⟨#[]⟩,0,[(⟨6,0,⟨#[]⟩,[(⟨2,0,⟨#[107]⟩,[(⟨0,3,⟨#[]⟩,[]⟩:Expr)]⟩:Expr)]⟩:Expr)],[],[]⟩:Stmt)]⟩:Fun)]) (q22 w' hw) (q27 w' hw)⟩
     simp only [execOp]
     simp [go_sem,g22,g27]
    ·refine jr rfl fun x1 y hB hF hD=>?_
     unfold Oper.wp
     simp only [execOp]
     simp [go_sem]
     exact ⟨_,rfl,(wu _ _).alloc (wo _) _,y.heap.size,rfl,hB.size,Go.heap_alloc_new y _⟩
   ·intro x1 y hB hF hP
    obtain ⟨p0,p1,p2,p3,p4,p5,p6,p7,p8,-⟩:=hP
    have q28:∀ w',But (.cells #[.slice none 0 0,.slice none 0 0] 25) w2.heap.size y w'→kn w' ((⟨[(⟨⟨#[107]⟩,2⟩:Arr)],[(⟨⟨#[102]⟩,true,[(⟨⟨#[105]⟩,0,0⟩:z8)],[(⟨1,⟨#[107]⟩,0,[(⟨1,0,⟨#[105]⟩,[]⟩:Expr),(⟨0,5,⟨#[]⟩,[]⟩:Expr)],[],[]⟩:Stmt),(⟨4,⟨#[]⟩,0,[(⟨6,0,⟨#[]⟩,[(⟨2,0,⟨#[107]⟩,[(⟨0,3,⟨#[]⟩,[]⟩:Expr)]⟩:Expr)]⟩:Expr)],[],[]⟩:Stmt)]⟩:Fun)]⟩:Src)) (slot x1 28):=p7
    obtain ⟨a28_0,c28_0,a28_1,c28_1,e28,-⟩:=q28 y (But.refl _ _ _)
    have e28:slot x1 28=.agg #[.slice a28_0 1 c28_0,.slice a28_1 1 c28_1]:=e28
    have g28:=jh e28
    simp only [e28] at q28
    obtain ⟨b3,ex,hbx,hbz⟩:=p8
    have ex:slot x1 3=.pointer (some ⟨b3,0,none⟩):=ex
    have hx:=jj hF [(21,slot x1 21),(22,slot x1 22),(23,slot x1 23),(24,slot x1 24),(25,slot x1 25),(26,slot x1 26),(27,slot x1 27),(28,.agg #[.slice a28_0 1 c28_0,.slice a28_1 1 c28_1]),(3,.pointer (some ⟨b3,0,none⟩))] rfl ⟨rfl,rfl,rfl,rfl,rfl,rfl,rfl,e28,ex,trivial⟩
    clear hF p0 p1 p2 p3 p4 p5 p6 p7
    clear e28 g28
    generalize slot x1 21=u21 at *
    generalize slot x1 22=u22 at *
    generalize slot x1 23=u23 at *
    generalize slot x1 24=u24 at *
    generalize slot x1 25=u25 at *
    generalize slot x1 26=u26 at *
    generalize slot x1 27=u27 at *
    subst hx
    simp only [puts,Act.put,we,wg,wi,wj,wk]
    have HZb:=k8 hbz
    have HX3:=k8 (q28 _ (But.setRow (cs:=#[.slice a28_0 1 c28_0,.slice a28_1 1 c28_1]) hbz hbx))
    have HK3:=k8 (Go.setRow_heap y b3 _ #[.slice a28_0 1 c28_0,.slice a28_1 1 c28_1] _ _ hbz)
    have HB3:=k8 (below_setRow hB hbx #[.slice a28_0 1 c28_0,.slice a28_1 1 c28_1])
    clear hbz hbx q28 hB
    refine wpList_store_row rfl 25 _ _ rfl b3 #[.slice a28_0 1 c28_0,.slice a28_1 1 c28_1] rfl rfl 25 _ HZb.out (by kernel_rfl) rfl (by simp [Value.oneCell']) ?_
    clear HZb
    generalize y.setRow b3 #[.slice a28_0 1 c28_0,.slice a28_1 1 c28_1]=w3 at *
    have HB3:=k8 (HB2.out.trans (HB3.out.mono HB2.out.size))
    clear HB2 HS2
    go_upto_region 4 with (fail)
    refine vi [mpQ (.cells #[] 53) w3.heap.size (fun w v=>kn w ((⟨[(⟨⟨#[107]⟩,2⟩:Arr)],[(⟨⟨#[102]⟩,true,[(⟨⟨#[105]⟩,0,0⟩:z8)],[(⟨1,⟨#[107]⟩,0,[(⟨1,0,⟨#[105]⟩,[]⟩:Expr),(⟨0,5,⟨#[]⟩,[]⟩:Expr)],[],[]⟩:Stmt),(⟨4,⟨#[]⟩,0,[(⟨6,0,⟨#[]⟩,[(⟨2,0,⟨#[107]⟩,[(⟨0,3,⟨#[]⟩,[]⟩:Expr)]⟩:Expr)]⟩:Expr)],[],[]⟩:Stmt)]⟩:Fun)]⟩:Src)) v),mpQ (.cells #[] 53) w3.heap.size (fun w v=>WSl w v ([1])),mpQ (.cells #[] 53) w3.heap.size (fun w v=>WSl w v ([0,0])),mpQ (.cells #[] 53) w3.heap.size (fun w v=>Sl 1 (WAt w) v ([[0,0]])),mpQ (.cells #[] 53) w3.heap.size (fun w v=>WorldIs w ([[0,0]]) ([]) v)] (by kernel_rfl) 5 (by decide) _ rfl ?_ ?_
    ·refine ⟨?_,?_,?_,?_,?_,trivial⟩
     ·refine zq rfl rfl fun x1 y hB hF hD=>?_
      have e3:slot x1 3=.pointer (some ⟨b3,0,none⟩):=hF.at 3 rfl
      have hb:=ji hB HK3.out
      refine ⟨.agg #[.slice a28_0 1 c28_0,.slice a28_1 1 c28_1],?_,fun w' hw=>HX3.out.below (hw.base hB (wo _))⟩
      clear hB hF
      simp only [execOp,ja,e3]
      simp [run_load_box y _ _ 25 _ _ _ hb Tryz.underlying25 rfl (by kernel_rfl),Result.andThen]
     ·refine jr rfl fun x1 y hB hF hD=>?_
      clear hB hF
      unfold Oper.wp
      simp only [execOp]
      simp [go_sem]
      refine ⟨_,rfl,(wu _ _).alloc (wo _) _,fun w' hw=>?_⟩
      exact wsl_row (hw.new (by simp)) [1] rfl (by simp)
     ·refine jr rfl fun x1 y hB hF hD=>?_
      clear hB hF
      unfold Oper.wp
      simp only [execOp]
      simp [go_sem]
      refine ⟨_,rfl,(wu _ _).alloc (wo _) _,fun w' hw=>?_⟩
      exact wsl_row (hw.new (by simp)) [0,0] rfl (by simp)
     ·refine jr rfl fun x1 y hB hF hD=>?_
      obtain ⟨d0,-⟩:=hD
      have q32:∀ w',But (.cells #[] 53) w3.heap.size y w'→WSl w' (slot x1 32) ([0,0]):=d0 rfl
      obtain ⟨a32_0,c32_0,e32,-⟩:=q32 y (But.refl _ _ _)
      have e32:slot x1 32=.slice a32_0 2 c32_0:=e32
      have g32:=jh e32
      simp only [e32] at q32
      clear hB hF
      unfold Oper.wp
      simp only [execOp]
      simp [go_sem,g32]
      refine ⟨_,rfl,(wu _ _).alloc (wo _) _,fun w' hw=>?_⟩
      exact ws_row (hw.new (by simp)) [([0,0],_)] ⟨q32 w' hw.of_alloc,trivial⟩ rfl (by simp)
     ·refine zq rfl rfl fun x1 y hB hF hD=>?_
      obtain ⟨d0,-⟩:=hD
      have q33:∀ w',But (.cells #[] 53) w3.heap.size y w'→Sl 1 (WAt w') (slot x1 33) ([[0,0]]):=d0 rfl
      obtain ⟨a33_0,c33_0,e33⟩:=yb (q33 y (But.refl _ _ _))
      have e33:slot x1 33=.slice a33_0 1 c33_0:=e33
      have g33:=jh e33
      simp only [e33] at q33
      clear hB hF
      refine ⟨.agg #[.slice a33_0 1 c33_0,.slice none 0 0],?_,fun w' hw=>world_mk (secs:=[[0,0]]) (shared:=[]) (q33 w' hw) (wsl_none _)⟩
      simp only [execOp]
      simp [go_sem,g33]
    ·intro x1 w4 hB hF hP
     obtain ⟨p0,p1,p2,p3,p4,-⟩:=hP
     have q30:∀ w',But (.cells #[] 53) w3.heap.size w4 w'→kn w' ((⟨[(⟨⟨#[107]⟩,2⟩:Arr)],[(⟨⟨#[102]⟩,true,[(⟨⟨#[105]⟩,0,0⟩:z8)],[(⟨1,⟨#[107]⟩,0,[(⟨1,0,⟨#[105]⟩,[]⟩:Expr),(⟨0,5,⟨#[]⟩,[]⟩:Expr)],[],[]⟩:Stmt),(⟨4,⟨#[]⟩,0,[(⟨6,0,⟨#[]⟩,[(⟨2,0,⟨#[107]⟩,[(⟨0,3,⟨#[]⟩,[]⟩:Expr)]⟩:Expr)]⟩:Expr)],[],[]⟩:Stmt)]⟩:Fun)]⟩:Src)) (slot x1 30):=p0
     obtain ⟨a30_0,c30_0,a30_1,c30_1,e30,-⟩:=q30 w4 (But.refl _ _ _)
     have e30:slot x1 30=.agg #[.slice a30_0 1 c30_0,.slice a30_1 1 c30_1]:=e30
     have g30:=jh e30
     simp only [e30] at q30
     have q31:∀ w',But (.cells #[] 53) w3.heap.size w4 w'→WSl w' (slot x1 31) ([1]):=p1
     obtain ⟨a31_0,c31_0,e31,-⟩:=q31 w4 (But.refl _ _ _)
     have e31:slot x1 31=.slice a31_0 1 c31_0:=e31
     have g31:=jh e31
     simp only [e31] at q31
     have q34:∀ w',But (.cells #[] 53) w3.heap.size w4 w'→WorldIs w' ([[0,0]]) ([]) (slot x1 34):=p4
     obtain ⟨a34_0,c34_0,a34_1,c34_1,e34,-⟩:=q34 w4 (But.refl _ _ _)
     have e34:slot x1 34=.agg #[.slice a34_0 1 c34_0,.slice a34_1 0 c34_1]:=e34
     have g34:=jh e34
     simp only [e34] at q34
     have hx:=jj hF [(30,.agg #[.slice a30_0 1 c30_0,.slice a30_1 1 c30_1]),(31,.slice a31_0 1 c31_0),(32,slot x1 32),(33,slot x1 33),(34,.agg #[.slice a34_0 1 c34_0,.slice a34_1 0 c34_1])] rfl ⟨e30,e31,rfl,rfl,e34,trivial⟩
     clear hF p0 p1 p2 p3 p4
     clear e30 g30
     clear e31 g31
     clear e34 g34
     generalize slot x1 32=u32 at *
     generalize slot x1 33=u33 at *
     subst hx
     simp only [puts,Act.put,we,wg,wi,wj,wk]
     have HI:=k8 (q30 w4 (But.refl _ _ _))
     have HA:=k8 (q31 w4 (But.refl _ _ _))
     have HW:=k8 (q34 w4 (But.refl _ _ _))
     have HB4:=k8 (HB3.out.trans (hB.mono HB3.out.size))
     have HK34:=k8 (ji hB HK3.out)
     have HX34:=k8 (HX3.out.below hB)
     clear hB q30 q31 q34 HB3 HK3 HX3
     go_wp2_with fail
     have hr:=run_any (p:=awakeSrc) (args:=[1]) (secs:=[[0,0]]) (shared:=[]) (by decide) _ _ _ 0 HI.out (HG.out.below HB4.out) HA.out (by intro x hx;simp at hx;subst hx;unfold U64;omega) HW.out (by intro l hl x hx;simp at hl;subst hl;simp at hx;subst hx;unfold U64;omega) (by intro x hx;simp at hx) (by rw [awake_run];decide)
     rw [awake_run] at hr
     refine hr.mono ?_
     rintro e w5 ⟨hb5,v,rfl,⟨ra1,rc1,ra2,rc2,ra3,rc3,rfl,hO1,hO2,hO3⟩,-⟩
     have hn5:=(wu w5.heap.size w5).alloc (wo _) (.cells #[.int .u64 0,.slice none 0 0,.slice none 0 0,.slice none 0 0] 37)
     have hq5:=below_setRow hn5 (wo _) #[.int .u64 5,.slice ra1 1 rc1,.slice ra2 1 rc2,.slice ra3 0 rc3]
     have HZ5:=k8 (Go.heap_alloc_new w5 (.cells #[.int .u64 0,.slice none 0 0,.slice none 0 0,.slice none 0 0] 37))
     have HK4:=k8 (Go.setRow_heap (w5.alloc (.cells #[.int .u64 0,.slice none 0 0,.slice none 0 0,.slice none 0 0] 37)) w5.heap.size _ #[.int .u64 5,.slice ra1 1 rc1,.slice ra2 1 rc2,.slice ra3 0 rc3] _ _ HZ5.out)
     have HO1:Hid (WSl _ (.slice ra1 1 rc1) [5]):=k8 (hO1.below hq5)
     have HO2:Hid (Sl 1 (WAt _) (.slice ra2 1 rc2) [[0,5]]):=k8 (hO2.imp (fun b o x _ hx=>hx.below hq5 x b o))
     have HK36:=k8 (ji hq5 (ji hb5 HK34.out))
     have HX36:=k8 ((HX34.out.below hb5).below hq5)
     have HB6:=k8 ((HB4.out.trans (hb5.mono HB4.out.size)).trans (hq5.mono (by have:=HB4.out.size;have:=hb5.size;omega)))
     clear hr hb5 hO1 hO2 hO3 hn5 hq5 HK34 HX34 HB4 HI HA HW
     go_upto_region 5 with ((refine wpList_store_row rfl 37 _ _ rfl w5.heap.size #[.int .u64 5,.slice ra1 1 rc1,.slice ra2 1 rc2,.slice ra3 0 rc3] rfl rfl 37 _ HZ5.out (by kernel_rfl) rfl (by simp [Value.oneCell']) ?_))
     clear HZ5
     generalize (w5.alloc (.cells #[.int .u64 0,.slice none 0 0,.slice none 0 0,.slice none 0 0] 37)).setRow w5.heap.size #[.int .u64 5,.slice ra1 1 rc1,.slice ra2 1 rc2,.slice ra3 0 rc3]=w6 at *
     generalize w5.heap.size=b4 at *
     refine vi [mpQ (.cells #[] 53) w6.heap.size (fun w v=>kn w ((⟨[(⟨⟨#[107]⟩,2⟩:Arr)],[(⟨⟨#[102]⟩,true,[(⟨⟨#[105]⟩,0,0⟩:z8)],[(⟨1,⟨#[107]⟩,0,[(⟨1,0,⟨#[105]⟩,[]⟩:Expr),(⟨0,5,⟨#[]⟩,[]⟩:Expr)],[],[]⟩:Stmt),(⟨4,⟨#[]⟩,0,[(⟨6,0,⟨#[]⟩,[(⟨2,0,⟨#[107]⟩,[(⟨0,3,⟨#[]⟩,[]⟩:Expr)]⟩:Expr)]⟩:Expr)],[],[]⟩:Stmt)]⟩:Fun)]⟩:Src)) v),mpQ (.cells #[] 53) w6.heap.size (fun w v=>WSl w v ([0,0])),mpQ (.cells #[] 53) w6.heap.size (fun w v=>Sl 1 (WAt w) v ([[0,0]])),mpQ (.cells #[] 53) w6.heap.size (fun w v=>WorldIs w ([[0,0]]) ([]) v)] (by kernel_rfl) 4 (by decide) _ rfl ?_ ?_
     ·refine ⟨?_,?_,?_,?_,trivial⟩
      ·refine zq rfl rfl fun x1 y hB hF hD=>?_
       have e3:slot x1 3=.pointer (some ⟨b3,0,none⟩):=hF.at 3 rfl
       have hb:=ji hB HK36.out
       refine ⟨.agg #[.slice a28_0 1 c28_0,.slice a28_1 1 c28_1],?_,fun w' hw=>HX36.out.below (hw.base hB (wo _))⟩
       clear hB hF
       simp only [execOp,ja,e3]
       simp [run_load_box y _ _ 25 _ _ _ hb Tryz.underlying25 rfl (by kernel_rfl),Result.andThen]
      ·refine jr rfl fun x1 y hB hF hD=>?_
       clear hB hF
       unfold Oper.wp
       simp only [execOp]
       simp [go_sem]
       refine ⟨_,rfl,(wu _ _).alloc (wo _) _,fun w' hw=>?_⟩
       exact wsl_row (hw.new (by simp)) [0,0] rfl (by simp)
      ·refine jr rfl fun x1 y hB hF hD=>?_
       obtain ⟨d0,-⟩:=hD
       have q40:∀ w',But (.cells #[] 53) w6.heap.size y w'→WSl w' (slot x1 40) ([0,0]):=d0 rfl
       obtain ⟨a40_0,c40_0,e40,-⟩:=q40 y (But.refl _ _ _)
       have e40:slot x1 40=.slice a40_0 2 c40_0:=e40
       have g40:=jh e40
       simp only [e40] at q40
       clear hB hF
       unfold Oper.wp
       simp only [execOp]
       simp [go_sem,g40]
       refine ⟨_,rfl,(wu _ _).alloc (wo _) _,fun w' hw=>?_⟩
       exact ws_row (hw.new (by simp)) [([0,0],_)] ⟨q40 w' hw.of_alloc,trivial⟩ rfl (by simp)
      ·refine zq rfl rfl fun x1 y hB hF hD=>?_
       obtain ⟨d0,-⟩:=hD
       have q41:∀ w',But (.cells #[] 53) w6.heap.size y w'→Sl 1 (WAt w') (slot x1 41) ([[0,0]]):=d0 rfl
       obtain ⟨a41_0,c41_0,e41⟩:=yb (q41 y (But.refl _ _ _))
       have e41:slot x1 41=.slice a41_0 1 c41_0:=e41
       have g41:=jh e41
       simp only [e41] at q41
       clear hB hF
       refine ⟨.agg #[.slice a41_0 1 c41_0,.slice none 0 0],?_,fun w' hw=>world_mk (secs:=[[0,0]]) (shared:=[]) (q41 w' hw) (wsl_none _)⟩
       simp only [execOp]
       simp [go_sem,g41]
     ·intro x1 w7 hB hF hP
      obtain ⟨p0,p1,p2,p3,-⟩:=hP
      have q39:∀ w',But (.cells #[] 53) w6.heap.size w7 w'→kn w' ((⟨[(⟨⟨#[107]⟩,2⟩:Arr)],[(⟨⟨#[102]⟩,true,[(⟨⟨#[105]⟩,0,0⟩:z8)],[(⟨1,⟨#[107]⟩,0,[(⟨1,0,⟨#[105]⟩,[]⟩:Expr),(⟨0,5,⟨#[]⟩,[]⟩:Expr)],[],[]⟩:Stmt),(⟨4,⟨#[]⟩,0,[(⟨6,0,⟨#[]⟩,[(⟨2,0,⟨#[107]⟩,[(⟨0,3,⟨#[]⟩,[]⟩:Expr)]⟩:Expr)]⟩:Expr)],[],[]⟩:Stmt)]⟩:Fun)]⟩:Src)) (slot x1 39):=p0
      obtain ⟨a39_0,c39_0,a39_1,c39_1,e39,-⟩:=q39 w7 (But.refl _ _ _)
      have e39:slot x1 39=.agg #[.slice a39_0 1 c39_0,.slice a39_1 1 c39_1]:=e39
      have g39:=jh e39
      simp only [e39] at q39
      have q42:∀ w',But (.cells #[] 53) w6.heap.size w7 w'→WorldIs w' ([[0,0]]) ([]) (slot x1 42):=p3
      obtain ⟨a42_0,c42_0,a42_1,c42_1,e42,-⟩:=q42 w7 (But.refl _ _ _)
      have e42:slot x1 42=.agg #[.slice a42_0 1 c42_0,.slice a42_1 0 c42_1]:=e42
      have g42:=jh e42
      simp only [e42] at q42
      have hx:=jj hF [(39,.agg #[.slice a39_0 1 c39_0,.slice a39_1 1 c39_1]),(40,slot x1 40),(41,slot x1 41),(42,.agg #[.slice a42_0 1 c42_0,.slice a42_1 0 c42_1])] rfl ⟨e39,rfl,rfl,e42,trivial⟩
      clear hF p0 p1 p2 p3
      clear e39 g39
      clear e42 g42
      generalize slot x1 40=u40 at *
      generalize slot x1 41=u41 at *
      subst hx
      simp only [puts,Act.put,we,wg,wi,wj,wk]
      have HI:=k8 (q39 w7 (But.refl _ _ _))
      have HW:=k8 (q42 w7 (But.refl _ _ _))
      have HB7:=k8 (HB6.out.trans (hB.mono HB6.out.size))
      have HK47:=k8 (ji hB HK4.out)
      have HO17:=k8 (HO1.out.below hB)
      have HO27:=k8 (HO2.out.imp (fun b o x _ hx=>hx.below hB x b o))
      clear hB q39 q42 HB6 HK36 HX36 HK4 HO1 HO2
      go_wp2_with fail
      have hr:=run_any (p:=awakeSrc) (args:=[]) (secs:=[[0,0]]) (shared:=[]) (by decide) _ _ _ 0 HI.out (HG.out.below HB7.out) (wsl_none _) (by intro x hx;simp at hx) HW.out (by intro l hl x hx;simp at hl;subst hl;simp at hx;subst hx;unfold U64;omega) (by intro x hx;simp at hx) (by rw [awake_none];decide)
      rw [awake_none] at hr
      refine hr.mono ?_
      rintro e w8 ⟨hb8,v,rfl,⟨sa1,sc1,sa2,sc2,sa3,sc3,rfl,-,-,-⟩,-⟩
      have hn8:=(wu w8.heap.size w8).alloc (wo _) (.cells #[.int .u64 0,.slice none 0 0,.slice none 0 0,.slice none 0 0] 37)
      have hq8:=hb8.trans ((below_setRow hn8 (wo _) #[.int .u64 0,.slice sa1 0 sc1,.slice sa2 0 sc2,.slice sa3 0 sc3]).mono hb8.size)
      have HZ8:=k8 (Go.heap_alloc_new w8 (.cells #[.int .u64 0,.slice none 0 0,.slice none 0 0,.slice none 0 0] 37))
      have HK9:=k8 (ji hq8 HK47.out)
      have HO19:=k8 (HO17.out.below hq8)
      have HO29:=k8 (HO27.out.imp (fun b o x _ hx=>hx.below hq8 x b o))
      have HB9:=k8 (HB7.out.trans (hq8.mono HB7.out.size))
      clear hr hb8 hn8 hq8 HK47 HO17 HO27 HB7 HI HW
      go_upto_region 6 with ((refine wpList_store_row rfl 37 _ _ rfl w8.heap.size #[.int .u64 0,.slice sa1 0 sc1,.slice sa2 0 sc2,.slice sa3 0 sc3] rfl rfl 37 _ HZ8.out (by kernel_rfl) rfl (by simp [Value.oneCell']) ?_))
      clear HZ8
      generalize (w8.alloc (.cells #[.int .u64 0,.slice none 0 0,.slice none 0 0,.slice none 0 0] 37)).setRow w8.heap.size #[.int .u64 0,.slice sa1 0 sc1,.slice sa2 0 sc2,.slice sa3 0 sc3]=w9 at *
      generalize w8.heap.size=b8 at *
      obtain ⟨_,_,he,-,-,hrw0⟩:=HO29.out
      simp only [Value.slice.injEq] at he
      obtain ⟨rfl,-,rfl⟩:=he
      obtain ⟨sb,so,rfl,hrw⟩:=hrw0 (by simp)
      obtain ⟨ev,hev,hew⟩:=hrw 0 [0,5] rfl
      rw [Nat.zero_mul,Nat.add_zero] at hev
      have HEw:=k8 hew
      have c0:=cell_of_row _ _ 0 _ _ _ HK9.out
      have c1:=cell_of_row _ _ 1 _ _ _ HK9.out
      have c2:=cell_of_row _ _ 2 _ _ _ HK9.out
      have hlt:=(wl.1 HK9.out).1
      simp only [List.getElem?_toArray,List.getElem?_cons_zero,List.getElem?_cons_succ] at c0 c1 c2
      have C2:=k8 c2
      have CE:=k8 hev
      clear hrw0 hrw hev hew c2
      go_wp2_with fail
      have hn:=(wu w9.heap.size w9).alloc (wo _) (.cells #[.int .u64 5] 35)
      refine (longs_any _ _ [5] [5] _ (HO19.out.below hn) (wsl_row (Go.heap_alloc_new w9 _) [5] rfl (by simp))).mono ?_
      rintro e w10 ⟨rfl,hb⟩
      have hT:=hn.trans (hb.mono hn.size)
      have c2:=jb hT C2.out
      have hev:=jb hT CE.out
      have hlt2:=k9 w10 _ c2
      have hlt3:=k9 w10 _ hev
      have HEw2:=k8 (HEw.out.below hT)
      have HBa:=k8 (HB9.out.trans (hT.mono HB9.out.size))
      clear hb hn hT c0 c1 hlt HEw HB9 C2 CE HO19 HO29 HK9
      go_wp2_with fail
      have hn:=(wu w10.heap.size w10).alloc (wo _) (.cells #[.int .u64 0,.int .u64 5] 35)
      refine (longs_any _ _ [0,5] [0,5] _ (HEw2.out.below hn) (wsl_row (Go.heap_alloc_new w10 _) [0,5] rfl (by simp))).mono ?_
      rintro e w11 ⟨rfl,hb⟩
      have HT:=k8 (HBa.out.trans ((hn.trans (hb.mono hn.size)).mono HBa.out.size))
      clear hb hn c2 hev hlt2 hlt3
      go_wp2_with fail
      go_ret
      exact ⟨rfl,HT.out⟩
end
section
open Go.RowKit Go.Shelf Go.Lib Go.ChangeShapes Go.WideShapes
theorem ownKnob_none:ownKnob Tryz.prog.godebug=none:=by kernel_rfl
theorem laid_out:laidOutB Tryz.prog=true:=by kernel_rfl
def lawLaid:List (String×DataW Unit):=[("math/bits.deBruijn32tab",Rows.laid_math_bits_deBruijn32tab),("math/bits.deBruijn64tab",Rows.laid_math_bits_deBruijn64tab),("internal/strconv.uint64pow10",Rows.laid_internal_strconv_uint64pow10),("unicode/utf8.acceptRanges",Rows.laid_unicode_utf8_acceptRanges),("unicode/utf8.first",Rows.laid_unicode_utf8_first)]
theorem var_below {P:Program} {W W':World} (hb:Below W.heap.size W W') {n:String} {cs:Array Value} (h:W.var? P n=some cs):W'.var? P n=some cs:=by
 unfold World.var? at h ⊢
 cases hg:P.globalNamed n with
 | none=>rw [hg] at h;cases h
 | some g=>
  rw [hg] at h
  simp only [Option.bind_some] at h ⊢
  have hlt:g<W.heap.size:=by
   cases hh:W.heap[g]? with
   | none=>rw [hh] at h;cases h
   | some o=>exact (wl.1 hh).1
  rw [hb.block g hlt]
  exact h
theorem extra260:U8Extra Tryz.prog Tryz.lays260_ren:=⟨by kernel_rfl,by kernel_rfl,by kernel_rfl,by kernel_rfl,by kernel_rfl,by kernel_rfl,by kernel_rfl⟩
theorem first_eq:Rows.laid_unicode_utf8_first=firstData:=by kernel_rfl
theorem accept_eq:Rows.laid_unicode_utf8_acceptRanges=(acceptData:DataW Unit):=by kernel_rfl
theorem pow10_eq:Rows.laid_internal_strconv_uint64pow10=(tabData .u64 pow10Tab:DataW Unit):=by kernel_rfl
theorem pow10_name:Tryz.prog.globalNamed "internal/strconv.uint64pow10"=some 1:=by kernel_rfl
theorem pow10_type:(Tryz.prog.globals[1]?).map (·.type)=some 241:=by kernel_rfl
theorem glob_of_laid {W:World} (h:laidMetH Tryz.prog lawLaid W):Glob W:=by
 rw [MakeChecks.laidMetH_plain _ _ _ (by kernel_rfl)] at h
 have h1:=Lib.laidMet.reads h (n:= "internal/strconv.uint64pow10") (d:=Rows.laid_internal_strconv_uint64pow10) (by simp [lawLaid])
 have h2:=Lib.laidMet.reads h (n:= "unicode/utf8.acceptRanges") (d:=Rows.laid_unicode_utf8_acceptRanges) (by simp [lawLaid])
 have h3:=Lib.laidMet.reads h (n:= "unicode/utf8.first") (d:=Rows.laid_unicode_utf8_first) (by simp [lawLaid])
 have e3:Rows.laid_unicode_utf8_first=firstData:=first_eq
 rw [e3] at h3
 rw [accept_eq] at h2
 rw [pow10_eq] at h1
 have hT:Lib.TabIs Tryz.prog W "internal/strconv.uint64pow10" .u64 Lib.pow10Tab:=by
  obtain ⟨g,t,cs,fuel,p,hg,hty,hvar,hd⟩:=h1
  obtain rfl:=Option.some.inj (pow10_name.symm.trans hg)
  obtain rfl:=Option.some.inj (pow10_type.symm.trans hty)
  unfold Lib.TabIs
  rw [hvar,← cells_of_tab Tryz.underlying241 Tryz.underlying35 (by kernel_rfl) (by kernel_rfl) hd]
 have hU:Lib.Utf8Tabs 2 3 W:=utf8Tabs_of_reads Tryz.lays260 extra260 h3 h2
 exact ⟨fun w' hb=>var_below hb hT,fun w' hb=>⟨fun c hc=>(hb.cell (k9 W _ (hU.1 c hc))).trans (hU.1 c hc),fun i hi=>⟨(hb.cell (k9 W _ (hU.2 i hi).1)).trans (hU.2 i hi).1,(hb.cell (k9 W _ (hU.2 i hi).2)).trans (hU.2 i hi).2⟩⟩⟩
end
end Go.Proofs.YtdembmaldllmkaaGreatDoor
