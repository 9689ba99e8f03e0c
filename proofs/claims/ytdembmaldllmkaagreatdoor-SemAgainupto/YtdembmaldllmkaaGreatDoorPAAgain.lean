/-
  The law caponierlaw12.SemAgain returns true for every input of bulk at most 1048576: the same call in the same world comes to the same again; in the world that it left a function that puts nothing comes to the same, too.
  Conditions: the row's own (what it reads is of bulk at most 1048576; the listed package variables lie as the program's text lays them; the arguments hold no ring), and the model's.
-/
import Derived.Test.YtdembmaldllmkaaGreatDoorPA6
import Derived.SizedLaws
import Derived.ChangeSlices
import Derived.Deep.Cut
import Derived.Deep.DeepHandedRow
set_option linter.unusedVariables false
set_option linter.unusedSimpArgs false
set_option maxHeartbeats 32000000
set_option maxRecDepth 100000
namespace Go.Proofs.YtdembmaldllmkaaGreatDoor
section
open Go.RowKit Go.Shelf Go.Lib Go.ChangeShapes Go.WideShapes
section
variable {H:Type} {enc:TypeId×Value→H} {W:World}
theorem weights_at {P:Program} {ts:List TypeId} {ds:List (DataW H)} (h:(DataW.weightsEach P ts ds).all (·≤reachBytes)=true) {j:Nat} {t:TypeId} {d:DataW H} (ht:ts[j]?=some t) (hd:ds[j]?=some d):∀ n∈d.weights P t,n≤reachBytes:=fun n hn=>by
 have:=List.all_eq_true.1 h n (DataW.weights_mem_each ht hd n hn)
 simpa using this
theorem wf_u64 {n:Int} (h:(Lit.int .u64 n).wf=true):U64 n:=by
 unfold U64
 simp [Lit.wf,IntKind.min,IntKind.max,IntKind.signed,IntKind.bits] at h
 omega
theorem wf_i64 {n:Int} (h:(Lit.int .i64 n).wf=true):I64 n:=by
 unfold I64
 simp [Lit.wf,IntKind.min,IntKind.max,IntKind.signed,IntKind.bits] at h
 omega
theorem add_zero' (a:Addr) {w:World} {v:Value} (h:w.cell? (a.add 0)=some v):∃ b o,a=⟨b,o,none⟩:=by
 obtain ⟨b,o,sp⟩:=a
 cases sp with
 | none=>exact ⟨b,o,rfl⟩
 | some s=>
  exfalso
  have hs:∃ s',((⟨b,o,some s⟩:Addr).add 0).spot=some s':=by unfold Addr.add;split<;>simp_all
  obtain ⟨s',hs⟩:=hs
  unfold World.cell? at h
  split at h
  ·rw [hs] at h;simp at h
  ·cases h
theorem words_trod {fuel:Nat} {cs:List Value} {x:DataW H×List MemPlace} (h:DataW.trod enc Tryz.prog W 0 (fun _=>true) true fuel 26 cs=some x) (hz:∀ n∈x.1.weights Tryz.prog 26,n≤reachBytes):∃ v l,cs=[v]∧WSl W v l∧∀ z∈l,U64 z:=by
 rcases open_ints Tryz.underlying26 Tryz.underlying35 (by kernel_rfl) h with ⟨rfl,_⟩|⟨a,len,cap,zs,rfl,_,hlc,_,hzl,hx,hcell,hwf⟩
 ·exact ⟨_,[],rfl,⟨none,0,rfl,by simp,by simp,fun _=>rfl,fun h=>absurd rfl h⟩,fun z hz=>by cases hz⟩
 ·simp only [if_true] at hzl
  have hlen:(zs.take len).length=len:=by rw [List.length_take];omega
  have hb:cap * 8≤reachBytes:=by
   refine hz _ ?_
   rw [hx]
   simp only [DataW.weights,Tryz.underlying26]
   refine gh.2 (.inl ?_)
   have e:Tryz.prog.bytesOf 35=8:=by kernel_rfl
   rw [e,lits,lits,List.length_map,List.length_map,List.length_take,List.length_drop]
   congr 1
   omega
  have hr:reachBytes=140737488351232:=by decide
  refine ⟨_,zs.take len,rfl,⟨some a,cap,by rw [hlen],by omega,by omega,fun h=>(by cases h),fun hne=>?_⟩,fun z hz=>wf_u64 (hwf z (List.mem_of_mem_take hz))⟩
  have hl0:0<zs.length:=by
   cases zs with
   | nil=>simp at hne
   | cons a l=>simp
  obtain ⟨b,o,rfl⟩:=add_zero' a (hcell 0 hl0)
  refine ⟨b,o,rfl,fun j y hj=>?_⟩
  have hjl:=(List.getElem?_eq_some_iff.1 hj).1
  have hjz:j<zs.length:=by rw [List.length_take] at hjl;omega
  have:=hcell j hjz
  have ha:(⟨b,o,none⟩:Addr).add j=⟨b,o+j,none⟩:=by unfold Addr.add;split<;>simp_all
  rw [ha] at this
  rw [this]
  rw [List.getElem?_take,if_pos (by rw [List.length_take] at hjl;omega),List.getElem?_eq_getElem hjz] at hj
  rw [List.getD_eq_getElem?_getD,List.getElem?_eq_getElem hjz]
  simp only [Option.some.injEq] at hj
  rw [Option.getD_some,hj]
end
end
section
open Go.RowKit
theorem kv {z:Int} (h:I64 z):IntKind.i64.wrap z=z:=by
 unfold I64 at h
 have e:IntKind.i64.wrap z=if z % 18446744073709551616 ≥ 9223372036854775808 then z % 18446744073709551616 - 18446744073709551616 else z % 18446744073709551616:=by simp [IntKind.wrap,IntKind.bits,IntKind.signed]
 rw [e]
 split<;>omega
end
section
open Go.RowKit
theorem wtEs_take (l:List Expr) (k:Nat) (h:k<l.length):wtEs (l.take (k+1))=wtEs (l.take k)+l[k].wt:=by
 induction l generalizing k with
 | nil=>simp at h
 | cons e es ih=>
  cases k with
  | zero=>simp [wtEs]
  | succ k=>
   have:=ih k (by simpa using h)
   simp only [List.take_succ_cons,wtEs,List.getElem_cons_succ]
   omega
theorem wtEs_le (l:List Expr) (k:Nat):wtEs (l.take k)≤wtEs l:=by
 induction l generalizing k with
 | nil=>simp
 | cons e es ih=>
  cases k with
  | zero=>simp [wtEs]
  | succ k=>have:=ih k;simp only [List.take_succ_cons,wtEs];omega
theorem wtSs_take (l:List Stmt) (k:Nat) (h:k<l.length):wtSs (l.take (k+1))=wtSs (l.take k)+l[k].wt:=by
 induction l generalizing k with
 | nil=>simp at h
 | cons e es ih=>
  cases k with
  | zero=>simp [wtSs]
  | succ k=>
   have:=ih k (by simpa using h)
   simp only [List.take_succ_cons,wtSs,List.getElem_cons_succ]
   omega
theorem wtSs_le (l:List Stmt) (k:Nat):wtSs (l.take k)≤wtSs l:=by
 induction l generalizing k with
 | nil=>simp
 | cons e es ih=>
  cases k with
  | zero=>simp [wtSs]
  | succ k=>have:=ih k;simp only [List.take_succ_cons,wtSs];omega
theorem weight_any:∀ (N:Nat) (l:List Expr) (v:Value) (w:World),wtEs l≤N→wtEs l≤1000000000→Sl 4 (zo w) v l→Calls Tryz.prog 51 #[v] w (Ret w (.int .i64 (wtEs l))):=by
 intro N
 induction N with
 | zero=>
  intro l v w hN hb hs
  cases l with
  | cons e l=>obtain ⟨k,n,s,xs⟩:=e;rw [wtEs,Expr.wt] at hN;omega
  | nil=>
   obtain ⟨a0,c0,rfl,-⟩:=hs
   go_enter Tryz.func51,Tryz.ntmps51
   go_wp2_with fail
   go_loopw [3,4] (fun nv iv wr=>nv=.int .i64 0∧iv=.int .i64 0∧wr=w) (fun nv iv _=>0)
   case atStart=>exact ⟨rfl,rfl,rfl⟩
   case round=>
    obtain ⟨rfl,rfl,rfl⟩:=hrel
    go_wp2_with fail
    go_ret
    exact ⟨rfl,wu _ _⟩
 | succ N ih=>
  intro l v w hN hbd hs
  obtain ⟨a0,c0,rfl,hc0,hm0,hr0⟩:=hs
  have hr0:=k8 hr0
  have IH:=k8 ih
  clear ih
  go_enter Tryz.func51,Tryz.ntmps51
  go_wp2_with fail
  go_loopw [3,4] (fun nv iv wr=>∃ k:Nat,k≤l.length∧nv=.int .i64 (wtEs (l.take k))∧iv=.int .i64 k∧Below w.heap.size w wr) (fun nv iv _=>l.length - (intOf iv).toNat)
  case atStart=>exact ⟨0,gj _,by simp [wtEs],rfl,wu _ _⟩
  case round=>
   obtain ⟨k,hk,rfl,rfl,hBr⟩:=hrel
   by_cases hlt:k<l.length
   ·obtain ⟨b0,o0,rfl,hro0⟩:=hr0.out (by intro h;rw [h] at hlt;simp at hlt)
    obtain ⟨aa,ac,-,-,hx2,hx3,hx⟩:=zo.open (hro0 k l[k] (by simp [hlt]))
    obtain ⟨_,_,hxe,-,-,-,hxs⟩:=hx
    simp only [Value.agg.injEq,List.toArray_inj,Array.mk.injEq,List.cons.injEq,Value.slice.injEq,true_and,and_true] at hxe
    have htk:=wtEs_take l k hlt
    have hle:=wtEs_le l (k+1)
    have hwx:l[k].wt=1+l[k].name.size+wtEs l[k].args:=by cases h:l[k] with|mk a b c d=>rw [Expr.wt]
    have hih:∀ y:World,Below wr.heap.size wr y→Calls Tryz.prog 51 #[.slice aa l[k].args.length ac] y (Ret y (.int .i64 (wtEs l[k].args))):=fun y hy=>
     IH.out l[k].args _ y (by have:=wtEs_le l (k+1);omega) (by omega) (by
      have h:=hxs.imp (fun b o x _ hx=>zo.below (hBr.trans (hy.mono hBr.size)) x b o hx)
      obtain ⟨rfl,rfl⟩:=hxe
      exact h)
    have HX2:=k8 (jb hBr hx2)
    have HX3:=k8 (jb hBr hx3)
    have HIH:=k8 hih
    have HIk:=k8 hlt
    have HB:=k8 hBr
    obtain ⟨A,hA⟩:∃ A:Nat,wtEs (l.take k)=A:=⟨_,rfl⟩
    have HBd:Hid ((A:Int)+1+l[k].name.size+wtEs l[k].args≤1000000000):=k8 (by omega)
    have HSum:Hid (wtEs (l.take (k+1))=A+1+l[k].name.size+wtEs l[k].args):=k8 (by omega)
    rw [hA]
    clear hro0 hx2 hx3 hxs hxe htk hle hwx hih hBr hA
    generalize l[k].name=nm at *
    generalize l[k].args.length=al at *
    generalize wtEs l[k].args=W at *
    go_wp2_with fail
    refine je zi [.is (.int .i64 A),.is (.int .i64 (A+1)),.is (.slice (some ⟨b0,o0,none⟩) l.length c0),.is (.int .i64 k),.is (.pointer (some ⟨b0,o0+k * 4,none⟩)),.is (.pointer (some ⟨b0,o0+k * 4+2,none⟩)),.is (.string nm),.is (.int .i64 nm.size),.is (.int .i64 (A+1+nm.size)),.is (.slice (some ⟨b0,o0,none⟩) l.length c0),.is (.int .i64 k),.is (.pointer (some ⟨b0,o0+k * 4,none⟩)),.is (.pointer (some ⟨b0,o0+k * 4+3,none⟩)),.is (.slice aa al ac),.is (.int .i64 W),.is (.int .i64 (A+1+nm.size+W))] (by kernel_rfl) 16 (by decide) (by kernel_rfl) _ rfl ?_ ?_
    ·refine ⟨?_,?_,?_,?_,?_,?_,?_,?_,?_,?_,?_,?_,?_,?_,?_,?_,trivial⟩
     ·refine jc rfl rfl rfl fun x1 y hB hF hD=>?_
      have e3:slot x1 3=.int .i64 A:=hF.at 3 rfl
      clear hB hF
      simp only [execOp,ja,e3]
      first|rfl|(go_simp;try rfl)
     ·refine jc rfl rfl rfl fun x1 y hB hF hD=>?_
      obtain ⟨d0,-⟩:=hD
      have e11:slot x1 11=.int .i64 A:=d0 rfl
      clear hB hF
      simp only [execOp,ja,e11]
      simp [go_sem]
      exact kv (by unfold I64;have:=HBd.out;omega)
     ·refine jc rfl rfl rfl fun x1 y hB hF hD=>?_
      have e0:slot x1 0=.slice (some ⟨b0,o0,none⟩) l.length c0:=hF.at 0 rfl
      clear hB hF
      simp only [execOp,ja,e0]
      first|rfl|(go_simp;try rfl)
     ·refine jc rfl rfl rfl fun x1 y hB hF hD=>?_
      have e4:slot x1 4=.int .i64 k:=hF.at 4 rfl
      clear hB hF
      simp only [execOp,ja,e4]
      first|rfl|(go_simp;try rfl)
     ·refine jc rfl rfl rfl fun x1 y hB hF hD=>?_
      obtain ⟨d0,d1,-⟩:=hD
      have e13:slot x1 13=.slice (some ⟨b0,o0,none⟩) l.length c0:=d0 rfl
      have e14:slot x1 14=.int .i64 k:=d1 rfl
      have hik:k<l.length:=HIk.out
      clear hB hF
      simp only [execOp,ja,e13,e14]
      first|rfl|(go_simp;try rfl)
     ·refine jc rfl rfl rfl fun x1 y hB hF hD=>?_
      obtain ⟨d0,-⟩:=hD
      have e15:slot x1 15=.pointer (some ⟨b0,o0+k * 4,none⟩):=d0 rfl
      clear hB hF
      simp only [execOp,ja,e15]
      first|rfl|(go_simp;try rfl)
     ·refine jc rfl rfl rfl fun x1 y hB hF hD=>?_
      obtain ⟨d0,-⟩:=hD
      have e16:slot x1 16=.pointer (some ⟨b0,o0+k * 4+2,none⟩):=d0 rfl
      have hc:y.cell? ⟨b0,o0+k * 4+2,none⟩=some (.string nm):=jb hB HX2.out
      clear hB hF
      simp only [execOp,ja,e16]
      first|rfl|(go_simp;try rfl)
     ·refine jc rfl rfl rfl fun x1 y hB hF hD=>?_
      obtain ⟨d0,-⟩:=hD
      have e17:slot x1 17=.string nm:=d0 rfl
      have g17:=jh e17
      clear hB hF e17
      simp only [execOp]
      simp [go_sem,g17]
     ·refine jc rfl rfl rfl fun x1 y hB hF hD=>?_
      obtain ⟨d0,d1,-⟩:=hD
      have e12:slot x1 12=.int .i64 (A+1):=d0 rfl
      have e18:slot x1 18=.int .i64 nm.size:=d1 rfl
      clear hB hF
      simp only [execOp,ja,e12,e18]
      simp [go_sem]
      exact kv (by unfold I64;have:=HBd.out;omega)
     ·refine jc rfl rfl rfl fun x1 y hB hF hD=>?_
      have e0:slot x1 0=.slice (some ⟨b0,o0,none⟩) l.length c0:=hF.at 0 rfl
      clear hB hF
      simp only [execOp,ja,e0]
      first|rfl|(go_simp;try rfl)
     ·refine jc rfl rfl rfl fun x1 y hB hF hD=>?_
      have e4:slot x1 4=.int .i64 k:=hF.at 4 rfl
      clear hB hF
      simp only [execOp,ja,e4]
      first|rfl|(go_simp;try rfl)
     ·refine jc rfl rfl rfl fun x1 y hB hF hD=>?_
      obtain ⟨d0,d1,-⟩:=hD
      have e20:slot x1 20=.slice (some ⟨b0,o0,none⟩) l.length c0:=d0 rfl
      have e21:slot x1 21=.int .i64 k:=d1 rfl
      have hik:k<l.length:=HIk.out
      clear hB hF
      simp only [execOp,ja,e20,e21]
      first|rfl|(go_simp;try rfl)
     ·refine jc rfl rfl rfl fun x1 y hB hF hD=>?_
      obtain ⟨d0,-⟩:=hD
      have e22:slot x1 22=.pointer (some ⟨b0,o0+k * 4,none⟩):=d0 rfl
      clear hB hF
      simp only [execOp,ja,e22]
      first|rfl|(go_simp;try rfl)
     ·refine jc rfl rfl rfl fun x1 y hB hF hD=>?_
      obtain ⟨d0,-⟩:=hD
      have e23:slot x1 23=.pointer (some ⟨b0,o0+k * 4+3,none⟩):=d0 rfl
      have hc:y.cell? ⟨b0,o0+k * 4+3,none⟩=some (.slice aa al ac):=jb hB HX3.out
      clear hB hF
      simp only [execOp,ja,e23]
      first|rfl|(go_simp;try rfl)
     ·refine jn (f:=51) rfl rfl fun x1 y hB hF hD=>⟨#[.slice aa al ac],?_,?_⟩
      ·obtain ⟨d0,-⟩:=hD
       have e24:slot x1 24=.slice aa al ac:=d0 rfl
       have g24:=jh e24
       clear hB hF e24
       simp only [execOp]
       simp [go_sem,g24]
      ·refine (HIH.out y hB).mono ?_
       rintro e w' ⟨rfl,hb⟩
       exact ⟨hb,.inl ⟨_,rfl,rfl⟩⟩
     ·refine jc rfl rfl rfl fun x1 y hB hF hD=>?_
      obtain ⟨d0,d1,-⟩:=hD
      have e19:slot x1 19=.int .i64 (A+1+nm.size):=d0 rfl
      have e25:slot x1 25=.int .i64 W:=d1 rfl
      clear hB hF
      simp only [execOp,ja,e19,e25]
      simp [go_sem]
      exact kv (by unfold I64;have:=HBd.out;omega)
    ·intro x1 y hB hF hP
     obtain ⟨p0,p1,p2,p3,p4,p5,p6,p7,p8,p9,p10,p11,p12,p13,p14,p15,-⟩:=hP
     have hx:=jj hF [(11,.int .i64 A),(12,.int .i64 (A+1)),(13,.slice (some ⟨b0,o0,none⟩) l.length c0),(14,.int .i64 k),(15,.pointer (some ⟨b0,o0+k * 4,none⟩)),(16,.pointer (some ⟨b0,o0+k * 4+2,none⟩)),(17,.string nm),(18,.int .i64 nm.size),(19,.int .i64 (A+1+nm.size)),(20,.slice (some ⟨b0,o0,none⟩) l.length c0),(21,.int .i64 k),(22,.pointer (some ⟨b0,o0+k * 4,none⟩)),(23,.pointer (some ⟨b0,o0+k * 4+3,none⟩)),(24,.slice aa al ac),(25,.int .i64 W),(26,.int .i64 (A+1+nm.size+W))] rfl ⟨p0,p1,p2,p3,p4,p5,p6,p7,p8,p9,p10,p11,p12,p13,p14,p15,trivial⟩
     have HB2:=k8 (HB.out.trans (hB.mono (by have:=HB.out.size;omega)))
     clear hB hF p0 p1 p2 p3 p4 p5 p6 p7 p8 p9 p10 p11 p12 p13 p14 p15
     subst hx
     simp only [puts,Act.put,we,wg,wi,wj,wk]
     go_wp2_with fail
     go_roundw
     case rel=>exact ⟨k+1,hlt,by rw [HSum.out];simp only [Value.int.injEq,true_and];omega,by go_num,HB2.out⟩
     case measure=>simp [intOf];omega
   ·have hkk:k=l.length:=by omega
    subst hkk
    have HB:=k8 hBr
    rw [ww (wo _)]
    clear hBr
    go_wp2_with fail
    go_ret
    exact ⟨rfl,HB.out⟩
theorem weigh_any:∀ (N:Nat) (l:List Stmt) (v:Value) (w:World),wtSs l≤N→wtSs l≤1000000000→Sl 6 (j9 w) v l→Calls Tryz.prog 33 #[v] w (Ret w (.int .i64 (wtSs l))):=by
 intro N
 induction N with
 | zero=>
  intro l v w hN hb hs
  cases l with
  | cons e l=>obtain ⟨k,s,n,xs,t,e⟩:=e;rw [wtSs,Stmt.wt] at hN;omega
  | nil=>
   obtain ⟨a0,c0,rfl,-⟩:=hs
   go_enter Tryz.func33,Tryz.ntmps33
   go_wp2_with fail
   go_loopw [3,4] (fun nv iv wr=>nv=.int .i64 0∧iv=.int .i64 0∧wr=w) (fun nv iv _=>0)
   case atStart=>exact ⟨rfl,rfl,rfl⟩
   case round=>
    obtain ⟨rfl,rfl,rfl⟩:=hrel
    go_wp2_with fail
    go_ret
    exact ⟨rfl,wu _ _⟩
 | succ N ih=>
  intro l v w hN hbd hs
  obtain ⟨a0,c0,rfl,hc0,hm0,hr0⟩:=hs
  have hr0:=k8 hr0
  have IH:=k8 ih
  clear ih
  go_enter Tryz.func33,Tryz.ntmps33
  go_wp2_with fail
  go_loopw [3,4] (fun nv iv wr=>∃ k:Nat,k≤l.length∧nv=.int .i64 (wtSs (l.take k))∧iv=.int .i64 k∧Below w.heap.size w wr) (fun nv iv _=>l.length - (intOf iv).toNat)
  case atStart=>exact ⟨0,gj _,by simp [wtSs],rfl,wu _ _⟩
  case round=>
   obtain ⟨k,hk,rfl,rfl,hBr⟩:=hrel
   by_cases hlt:k<l.length
   ·obtain ⟨b0,o0,rfl,hro0⟩:=hr0.out (by intro h;rw [h] at hlt;simp at hlt)
    obtain ⟨aa,ac,ta,tc,ea,ec,-,hx1,-,hx3,hx4,hx5,hx⟩:=j9.open (hro0 k l[k] (by simp [hlt]))
    obtain ⟨_,_,_,_,_,_,hxe,-,-,-,hxa,hxt,hxs⟩:=hx
    simp only [Value.agg.injEq,List.toArray_inj,Array.mk.injEq,List.cons.injEq,Value.slice.injEq,true_and,and_true] at hxe
    obtain ⟨⟨rfl,rfl⟩,⟨rfl,rfl⟩,rfl,rfl⟩:=hxe
    have htk:=wtSs_take l k hlt
    have hle:=wtSs_le l (k+1)
    have hwx:l[k].wt=1+l[k].name.size+wtEs l[k].args+wtSs l[k].thn+wtSs l[k].els:=by cases h:l[k] with|mk a b c d e f=>rw [Stmt.wt]
    have hia:∀ y:World,Below wr.heap.size wr y→Calls Tryz.prog 51 #[.slice aa l[k].args.length ac] y (Ret y (.int .i64 (wtEs l[k].args))):=fun y hy=>
     weight_any (wtEs l[k].args) l[k].args _ y (wo _) (by omega) (hxa.imp (fun b o x _ hx=>zo.below (hBr.trans (hy.mono hBr.size)) x b o hx))
    have hit:∀ y:World,Below wr.heap.size wr y→Calls Tryz.prog 33 #[.slice ta l[k].thn.length tc] y (Ret y (.int .i64 (wtSs l[k].thn))):=fun y hy=>
     IH.out l[k].thn _ y (by omega) (by omega) (hxt.imp (fun b o x _ hx=>j9.below (hBr.trans (hy.mono hBr.size)) x b o hx))
    have hie:∀ y:World,Below wr.heap.size wr y→Calls Tryz.prog 33 #[.slice ea l[k].els.length ec] y (Ret y (.int .i64 (wtSs l[k].els))):=fun y hy=>
     IH.out l[k].els _ y (by omega) (by omega) (hxs.imp (fun b o x _ hx=>j9.below (hBr.trans (hy.mono hBr.size)) x b o hx))
    have HX1:=k8 (jb hBr hx1)
    have HX3:=k8 (jb hBr hx3)
    have HX4:=k8 (jb hBr hx4)
    have HX5:=k8 (jb hBr hx5)
    have HIA:=k8 hia
    have HIT:=k8 hit
    have HIE:=k8 hie
    have HIk:=k8 hlt
    have HB:=k8 hBr
    obtain ⟨A,hA⟩:∃ A:Nat,wtSs (l.take k)=A:=⟨_,rfl⟩
    have HBd:Hid ((A:Int)+1+l[k].name.size+wtEs l[k].args+wtSs l[k].thn+wtSs l[k].els≤1000000000):=k8 (by omega)
    have HSum:Hid (wtSs (l.take (k+1))=A+1+l[k].name.size+wtEs l[k].args+wtSs l[k].thn+wtSs l[k].els):=k8 (by omega)
    rw [hA]
    clear hro0 hx1 hx3 hx4 hx5 hxa hxt hxs htk hle hwx hia hit hie hBr hA
    generalize l[k].name=nm at *
    generalize l[k].args.length=al at *
    generalize l[k].thn.length=tl at *
    generalize l[k].els.length=el at *
    generalize wtEs l[k].args=W at *
    generalize wtSs l[k].thn=V at *
    generalize wtSs l[k].els=U at *
    go_wp2_with fail
    refine je zi [.is (.int .i64 A),.is (.int .i64 (A+1)),.is (.slice (some ⟨b0,o0,none⟩) l.length c0),.is (.int .i64 k),.is (.pointer (some ⟨b0,o0+k * 6,none⟩)),.is (.pointer (some ⟨b0,o0+k * 6+1,none⟩)),.is (.string nm),.is (.int .i64 nm.size),.is (.int .i64 (A+1+nm.size)),.is (.slice (some ⟨b0,o0,none⟩) l.length c0),.is (.int .i64 k),.is (.pointer (some ⟨b0,o0+k * 6,none⟩)),.is (.pointer (some ⟨b0,o0+k * 6+3,none⟩)),.is (.slice aa al ac),.is (.int .i64 W),.is (.int .i64 (A+1+nm.size+W)),.is (.slice (some ⟨b0,o0,none⟩) l.length c0),.is (.int .i64 k),.is (.pointer (some ⟨b0,o0+k * 6,none⟩)),.is (.pointer (some ⟨b0,o0+k * 6+4,none⟩)),.is (.slice ta tl tc),.is (.int .i64 V),.is (.int .i64 (A+1+nm.size+W+V)),.is (.slice (some ⟨b0,o0,none⟩) l.length c0),.is (.int .i64 k),.is (.pointer (some ⟨b0,o0+k * 6,none⟩)),.is (.pointer (some ⟨b0,o0+k * 6+5,none⟩)),.is (.slice ea el ec),.is (.int .i64 U),.is (.int .i64 (A+1+nm.size+W+V+U))] (by kernel_rfl) 30 (by decide) (by kernel_rfl) _ rfl ?_ ?_
    ·refine ⟨?_,?_,?_,?_,?_,?_,?_,?_,?_,?_,?_,?_,?_,?_,?_,?_,?_,?_,?_,?_,?_,?_,?_,?_,?_,?_,?_,?_,?_,?_,trivial⟩
     ·refine jc rfl rfl rfl fun x1 y hB hF hD=>?_
      have e3:slot x1 3=.int .i64 A:=hF.at 3 rfl
      clear hB hF
      simp only [execOp,ja,e3]
      first|rfl|(go_simp;try rfl)
     ·refine jc rfl rfl rfl fun x1 y hB hF hD=>?_
      obtain ⟨d0,-⟩:=hD
      have e11:slot x1 11=.int .i64 A:=d0 rfl
      clear hB hF
      simp only [execOp,ja,e11]
      simp [go_sem]
      exact kv (by unfold I64;have:=HBd.out;omega)
     ·refine jc rfl rfl rfl fun x1 y hB hF hD=>?_
      have e0:slot x1 0=.slice (some ⟨b0,o0,none⟩) l.length c0:=hF.at 0 rfl
      clear hB hF
      simp only [execOp,ja,e0]
      first|rfl|(go_simp;try rfl)
     ·refine jc rfl rfl rfl fun x1 y hB hF hD=>?_
      have e4:slot x1 4=.int .i64 k:=hF.at 4 rfl
      clear hB hF
      simp only [execOp,ja,e4]
      first|rfl|(go_simp;try rfl)
     ·refine jc rfl rfl rfl fun x1 y hB hF hD=>?_
      obtain ⟨d0,d1,-⟩:=hD
      have e13:slot x1 13=.slice (some ⟨b0,o0,none⟩) l.length c0:=d0 rfl
      have e14:slot x1 14=.int .i64 k:=d1 rfl
      have hik:k<l.length:=HIk.out
      clear hB hF
      simp only [execOp,ja,e13,e14]
      first|rfl|(go_simp;try rfl)
     ·refine jc rfl rfl rfl fun x1 y hB hF hD=>?_
      obtain ⟨d0,-⟩:=hD
      have e15:slot x1 15=.pointer (some ⟨b0,o0+k * 6,none⟩):=d0 rfl
      clear hB hF
      simp only [execOp,ja,e15]
      first|rfl|(go_simp;try rfl)
     ·refine jc rfl rfl rfl fun x1 y hB hF hD=>?_
      obtain ⟨d0,-⟩:=hD
      have e16:slot x1 16=.pointer (some ⟨b0,o0+k * 6+1,none⟩):=d0 rfl
      have hc:y.cell? ⟨b0,o0+k * 6+1,none⟩=some (.string nm):=jb hB HX1.out
      clear hB hF
      simp only [execOp,ja,e16]
      first|rfl|(go_simp;try rfl)
     ·refine jc rfl rfl rfl fun x1 y hB hF hD=>?_
      obtain ⟨d0,-⟩:=hD
      have e17:slot x1 17=.string nm:=d0 rfl
      have g17:=jh e17
      clear hB hF e17
      simp only [execOp]
      simp [go_sem,g17]
     ·refine jc rfl rfl rfl fun x1 y hB hF hD=>?_
      obtain ⟨d0,d1,-⟩:=hD
      have e12:slot x1 12=.int .i64 (A+1):=d0 rfl
      have e18:slot x1 18=.int .i64 nm.size:=d1 rfl
      clear hB hF
      simp only [execOp,ja,e12,e18]
      simp [go_sem]
      exact kv (by unfold I64;have:=HBd.out;omega)
     ·refine jc rfl rfl rfl fun x1 y hB hF hD=>?_
      have e0:slot x1 0=.slice (some ⟨b0,o0,none⟩) l.length c0:=hF.at 0 rfl
      clear hB hF
      simp only [execOp,ja,e0]
      first|rfl|(go_simp;try rfl)
     ·refine jc rfl rfl rfl fun x1 y hB hF hD=>?_
      have e4:slot x1 4=.int .i64 k:=hF.at 4 rfl
      clear hB hF
      simp only [execOp,ja,e4]
      first|rfl|(go_simp;try rfl)
     ·refine jc rfl rfl rfl fun x1 y hB hF hD=>?_
      obtain ⟨d0,d1,-⟩:=hD
      have e20:slot x1 20=.slice (some ⟨b0,o0,none⟩) l.length c0:=d0 rfl
      have e21:slot x1 21=.int .i64 k:=d1 rfl
      have hik:k<l.length:=HIk.out
      clear hB hF
      simp only [execOp,ja,e20,e21]
      first|rfl|(go_simp;try rfl)
     ·refine jc rfl rfl rfl fun x1 y hB hF hD=>?_
      obtain ⟨d0,-⟩:=hD
      have e22:slot x1 22=.pointer (some ⟨b0,o0+k * 6,none⟩):=d0 rfl
      clear hB hF
      simp only [execOp,ja,e22]
      first|rfl|(go_simp;try rfl)
     ·refine jc rfl rfl rfl fun x1 y hB hF hD=>?_
      obtain ⟨d0,-⟩:=hD
      have e23:slot x1 23=.pointer (some ⟨b0,o0+k * 6+3,none⟩):=d0 rfl
      have hc:y.cell? ⟨b0,o0+k * 6+3,none⟩=some (.slice aa al ac):=jb hB HX3.out
      clear hB hF
      simp only [execOp,ja,e23]
      first|rfl|(go_simp;try rfl)
     ·refine jn (f:=51) rfl rfl fun x1 y hB hF hD=>⟨#[.slice aa al ac],?_,?_⟩
      ·obtain ⟨d0,-⟩:=hD
       have e24:slot x1 24=.slice aa al ac:=d0 rfl
       have g24:=jh e24
       clear hB hF e24
       simp only [execOp]
       simp [go_sem,g24]
      ·refine (HIA.out y hB).mono ?_
       rintro e w' ⟨rfl,hb⟩
       exact ⟨hb,.inl ⟨_,rfl,rfl⟩⟩
     ·refine jc rfl rfl rfl fun x1 y hB hF hD=>?_
      obtain ⟨d0,d1,-⟩:=hD
      have e19:slot x1 19=.int .i64 (A+1+nm.size):=d0 rfl
      have e25:slot x1 25=.int .i64 W:=d1 rfl
      clear hB hF
      simp only [execOp,ja,e19,e25]
      simp [go_sem]
      exact kv (by unfold I64;have:=HBd.out;omega)
     ·refine jc rfl rfl rfl fun x1 y hB hF hD=>?_
      have e0:slot x1 0=.slice (some ⟨b0,o0,none⟩) l.length c0:=hF.at 0 rfl
      clear hB hF
      simp only [execOp,ja,e0]
      first|rfl|(go_simp;try rfl)
     ·refine jc rfl rfl rfl fun x1 y hB hF hD=>?_
      have e4:slot x1 4=.int .i64 k:=hF.at 4 rfl
      clear hB hF
      simp only [execOp,ja,e4]
      first|rfl|(go_simp;try rfl)
     ·refine jc rfl rfl rfl fun x1 y hB hF hD=>?_
      obtain ⟨d0,d1,-⟩:=hD
      have e27:slot x1 27=.slice (some ⟨b0,o0,none⟩) l.length c0:=d0 rfl
      have e28:slot x1 28=.int .i64 k:=d1 rfl
      have hik:k<l.length:=HIk.out
      clear hB hF
      simp only [execOp,ja,e27,e28]
      first|rfl|(go_simp;try rfl)
     ·refine jc rfl rfl rfl fun x1 y hB hF hD=>?_
      obtain ⟨d0,-⟩:=hD
      have e29:slot x1 29=.pointer (some ⟨b0,o0+k * 6,none⟩):=d0 rfl
      clear hB hF
      simp only [execOp,ja,e29]
      first|rfl|(go_simp;try rfl)
     ·refine jc rfl rfl rfl fun x1 y hB hF hD=>?_
      obtain ⟨d0,-⟩:=hD
      have e30:slot x1 30=.pointer (some ⟨b0,o0+k * 6+4,none⟩):=d0 rfl
      have hc:y.cell? ⟨b0,o0+k * 6+4,none⟩=some (.slice ta tl tc):=jb hB HX4.out
      clear hB hF
      simp only [execOp,ja,e30]
      first|rfl|(go_simp;try rfl)
     ·refine jn (f:=33) rfl rfl fun x1 y hB hF hD=>⟨#[.slice ta tl tc],?_,?_⟩
      ·obtain ⟨d0,-⟩:=hD
       have e31:slot x1 31=.slice ta tl tc:=d0 rfl
       have g31:=jh e31
       clear hB hF e31
       simp only [execOp]
       simp [go_sem,g31]
      ·refine (HIT.out y hB).mono ?_
       rintro e w' ⟨rfl,hb⟩
       exact ⟨hb,.inl ⟨_,rfl,rfl⟩⟩
     ·refine jc rfl rfl rfl fun x1 y hB hF hD=>?_
      obtain ⟨d0,d1,-⟩:=hD
      have e26:slot x1 26=.int .i64 (A+1+nm.size+W):=d0 rfl
      have e32:slot x1 32=.int .i64 V:=d1 rfl
      clear hB hF
      simp only [execOp,ja,e26,e32]
      simp [go_sem]
      exact kv (by unfold I64;have:=HBd.out;omega)
     ·refine jc rfl rfl rfl fun x1 y hB hF hD=>?_
      have e0:slot x1 0=.slice (some ⟨b0,o0,none⟩) l.length c0:=hF.at 0 rfl
      clear hB hF
      simp only [execOp,ja,e0]
      first|rfl|(go_simp;try rfl)
     ·refine jc rfl rfl rfl fun x1 y hB hF hD=>?_
      have e4:slot x1 4=.int .i64 k:=hF.at 4 rfl
      clear hB hF
      simp only [execOp,ja,e4]
      first|rfl|(go_simp;try rfl)
     ·refine jc rfl rfl rfl fun x1 y hB hF hD=>?_
      obtain ⟨d0,d1,-⟩:=hD
      have e34:slot x1 34=.slice (some ⟨b0,o0,none⟩) l.length c0:=d0 rfl
      have e35:slot x1 35=.int .i64 k:=d1 rfl
      have hik:k<l.length:=HIk.out
      clear hB hF
      simp only [execOp,ja,e34,e35]
      first|rfl|(go_simp;try rfl)
     ·refine jc rfl rfl rfl fun x1 y hB hF hD=>?_
      obtain ⟨d0,-⟩:=hD
      have e36:slot x1 36=.pointer (some ⟨b0,o0+k * 6,none⟩):=d0 rfl
      clear hB hF
      simp only [execOp,ja,e36]
      first|rfl|(go_simp;try rfl)
     ·refine jc rfl rfl rfl fun x1 y hB hF hD=>?_
      obtain ⟨d0,-⟩:=hD
      have e37:slot x1 37=.pointer (some ⟨b0,o0+k * 6+5,none⟩):=d0 rfl
      have hc:y.cell? ⟨b0,o0+k * 6+5,none⟩=some (.slice ea el ec):=jb hB HX5.out
      clear hB hF
      simp only [execOp,ja,e37]
      first|rfl|(go_simp;try rfl)
     ·refine jn (f:=33) rfl rfl fun x1 y hB hF hD=>⟨#[.slice ea el ec],?_,?_⟩
      ·obtain ⟨d0,-⟩:=hD
       have e38:slot x1 38=.slice ea el ec:=d0 rfl
       have g38:=jh e38
       clear hB hF e38
       simp only [execOp]
       simp [go_sem,g38]
      ·refine (HIE.out y hB).mono ?_
       rintro e w' ⟨rfl,hb⟩
       exact ⟨hb,.inl ⟨_,rfl,rfl⟩⟩
     ·refine jc rfl rfl rfl fun x1 y hB hF hD=>?_
      obtain ⟨d0,d1,-⟩:=hD
      have e33:slot x1 33=.int .i64 (A+1+nm.size+W+V):=d0 rfl
      have e39:slot x1 39=.int .i64 U:=d1 rfl
      clear hB hF
      simp only [execOp,ja,e33,e39]
      simp [go_sem]
      exact kv (by unfold I64;have:=HBd.out;omega)
    ·intro x1 y hB hF hP
     obtain ⟨p0,p1,p2,p3,p4,p5,p6,p7,p8,p9,p10,p11,p12,p13,p14,p15,p16,p17,p18,p19,p20,p21,p22,p23,p24,p25,p26,p27,p28,p29,-⟩:=hP
     have hx:=jj hF [(11,.int .i64 A),(12,.int .i64 (A+1)),(13,.slice (some ⟨b0,o0,none⟩) l.length c0),(14,.int .i64 k),(15,.pointer (some ⟨b0,o0+k * 6,none⟩)),(16,.pointer (some ⟨b0,o0+k * 6+1,none⟩)),(17,.string nm),(18,.int .i64 nm.size),(19,.int .i64 (A+1+nm.size)),(20,.slice (some ⟨b0,o0,none⟩) l.length c0),(21,.int .i64 k),(22,.pointer (some ⟨b0,o0+k * 6,none⟩)),(23,.pointer (some ⟨b0,o0+k * 6+3,none⟩)),(24,.slice aa al ac),(25,.int .i64 W),(26,.int .i64 (A+1+nm.size+W)),(27,.slice (some ⟨b0,o0,none⟩) l.length c0),(28,.int .i64 k),(29,.pointer (some ⟨b0,o0+k * 6,none⟩)),(30,.pointer (some ⟨b0,o0+k * 6+4,none⟩)),(31,.slice ta tl tc),(32,.int .i64 V),(33,.int .i64 (A+1+nm.size+W+V)),(34,.slice (some ⟨b0,o0,none⟩) l.length c0),(35,.int .i64 k),(36,.pointer (some ⟨b0,o0+k * 6,none⟩)),(37,.pointer (some ⟨b0,o0+k * 6+5,none⟩)),(38,.slice ea el ec),(39,.int .i64 U),(40,.int .i64 (A+1+nm.size+W+V+U))] rfl ⟨p0,p1,p2,p3,p4,p5,p6,p7,p8,p9,p10,p11,p12,p13,p14,p15,p16,p17,p18,p19,p20,p21,p22,p23,p24,p25,p26,p27,p28,p29,trivial⟩
     have HB2:=k8 (HB.out.trans (hB.mono (by have:=HB.out.size;omega)))
     clear hB hF p0 p1 p2 p3 p4 p5 p6 p7 p8 p9 p10 p11 p12 p13 p14 p15 p16 p17 p18 p19 p20 p21 p22 p23 p24 p25 p26 p27 p28 p29
     subst hx
     simp only [puts,Act.put,we,wg,wi,wj,wk]
     go_wp2_with fail
     go_roundw
     case rel=>exact ⟨k+1,hlt,by rw [HSum.out];simp only [Value.int.injEq,true_and];omega,by go_num,HB2.out⟩
     case measure=>simp [intOf];omega
   ·have hkk:k=l.length:=by omega
    subst hkk
    have HB:=k8 hBr
    rw [ww (wo _)]
    clear hBr
    go_wp2_with fail
    go_ret
    exact ⟨rfl,HB.out⟩
end
section
open Go.RowKit
def wtAs:List Arr→Nat
 | []=>0
 | a::l=>1+a.name.size+wtAs l
def wtPs:List z8→Nat
 | []=>0
 | a::l=>1+a.name.size+wtPs l
def wtGs:List Fun→Nat
 | []=>0
 | f::l=>1+f.name.size+wtSs f.body+wtPs f.params+wtGs l
def kj (p:Src):Nat:=wtAs p.secrets+wtGs p.funcs
theorem wtAs_take (l:List Arr) (k:Nat) (h:k<l.length):wtAs (l.take (k+1))=wtAs (l.take k)+(1+l[k].name.size):=by
 induction l generalizing k with
 | nil=>simp at h
 | cons e es ih=>
  cases k with
  | zero=>simp [wtAs]
  | succ k=>
   have:=ih k (by simpa using h)
   simp only [List.take_succ_cons,wtAs,List.getElem_cons_succ]
   omega
theorem wtAs_le (l:List Arr) (k:Nat):wtAs (l.take k)≤wtAs l:=by
 induction l generalizing k with
 | nil=>simp
 | cons e es ih=>
  cases k with
  | zero=>simp [wtAs]
  | succ k=>have:=ih k;simp only [List.take_succ_cons,wtAs];omega
theorem wtPs_take (l:List z8) (k:Nat) (h:k<l.length):wtPs (l.take (k+1))=wtPs (l.take k)+(1+l[k].name.size):=by
 induction l generalizing k with
 | nil=>simp at h
 | cons e es ih=>
  cases k with
  | zero=>simp [wtPs]
  | succ k=>
   have:=ih k (by simpa using h)
   simp only [List.take_succ_cons,wtPs,List.getElem_cons_succ]
   omega
theorem wtPs_le (l:List z8) (k:Nat):wtPs (l.take k)≤wtPs l:=by
 induction l generalizing k with
 | nil=>simp
 | cons e es ih=>
  cases k with
  | zero=>simp [wtPs]
  | succ k=>have:=ih k;simp only [List.take_succ_cons,wtPs];omega
theorem wtGs_take (l:List Fun) (k:Nat) (h:k<l.length):wtGs (l.take (k+1))=wtGs (l.take k)+(1+l[k].name.size+wtSs l[k].body+wtPs l[k].params):=by
 induction l generalizing k with
 | nil=>simp at h
 | cons e es ih=>
  cases k with
  | zero=>simp [wtGs]
  | succ k=>
   have:=ih k (by simpa using h)
   simp only [List.take_succ_cons,wtGs,List.getElem_cons_succ]
   omega
theorem wtGs_le (l:List Fun) (k:Nat):wtGs (l.take k)≤wtGs l:=by
 induction l generalizing k with
 | nil=>simp
 | cons e es ih=>
  cases k with
  | zero=>simp [wtGs]
  | succ k=>have:=ih k;simp only [List.take_succ_cons,wtGs];omega
theorem wtFs_gs:∀ l,wtFs l≤wtGs l
 | []=>wo _
 | f::l=>by have:=wtFs_gs l;rw [wtFs,wtGs];omega
theorem Weight_any (p:Src) (v:Value) (w:World) (hw:kj p≤1000000000) (hI:kn w p v):Calls Tryz.prog 22 #[v] w (Ret w (.int .i64 (kj p))):=by
 obtain ⟨a0,c0,a1,c1,rfl,⟨_,_,he0,hc0,hm0,hr0⟩,⟨_,_,he1,hc1,hm1,hr1⟩⟩:=hI
 simp only [Value.slice.injEq] at he0 he1
 obtain ⟨rfl,-,rfl⟩:=he0
 obtain ⟨rfl,-,rfl⟩:=he1
 have HR0:=k8 hr0
 have HR1:=k8 hr1
 have HW:=k8 hw
 unfold kj at hw
 have hBx:=(wu w.heap.size w).alloc (wo _) (.cells #[.slice a0 p.secrets.length c0,.slice a1 p.funcs.length c1] 25)
 have HP0:=k8 (show (w.alloc (.cells #[.slice a0 p.secrets.length c0,.slice a1 p.funcs.length c1] 25)).cell? ⟨w.heap.size,0,none⟩=some (.slice a0 p.secrets.length c0) by simp)
 have HP1:=k8 (show (w.alloc (.cells #[.slice a0 p.secrets.length c0,.slice a1 p.funcs.length c1] 25)).cell? ⟨w.heap.size,1,none⟩=some (.slice a1 p.funcs.length c1) by simp)
 have hw0:wtAs p.secrets≤1000000000:=by omega
 have hw1:wtAs p.secrets+wtGs p.funcs≤1000000000:=hw
 have HW1:=k8 hw1
 have HBx:=k8 hBx
 clear hr0 hr1 hw hBx hw1
 go_enter Tryz.func22,Tryz.ntmps22
 go_wp2_with fail
 generalize w.alloc (.cells #[.slice a0 p.secrets.length c0,.slice a1 p.funcs.length c1] 25)=w1 at *
 go_loopw [3,4] (fun nv iv wr=>∃ k:Nat,k≤p.secrets.length∧nv=.int .i64 (wtAs (p.secrets.take k))∧iv=.int .i64 k∧Below w1.heap.size w1 wr) (fun nv iv _=>p.secrets.length - (intOf iv).toNat)
 case atStart=>exact ⟨0,gj _,by simp [wtAs],rfl,wu _ _⟩
 case round=>
  obtain ⟨k,hk,rfl,rfl,hBr⟩:=hrel
  by_cases hlt:k<p.secrets.length
  ·obtain ⟨b0,o0,rfl,hro0⟩:=HR0.out (by intro h;rw [h] at hlt;simp at hlt)
   have hx:=hro0 k p.secrets[k] (by simp [hlt])
   have htk:=wtAs_take p.secrets k hlt
   have hle:=wtAs_le p.secrets (k+1)
   have hcx:=jb (HBx.out.trans (hBr.mono HBx.out.size)) hx.1.1
   have hc1:=jb hBr HP0.out
   have hl0:=k9 wr _ hcx
   have hl1:=k9 wr _ hc1
   have HB:=k8 hBr
   obtain ⟨A,hA⟩:∃ A:Nat,wtAs (p.secrets.take k)=A:=⟨_,rfl⟩
   have hbd:(A:Int)+1+p.secrets[k].name.size≤1000000000:=by omega
   have HSum:Hid (wtAs (p.secrets.take (k+1))=A+1+p.secrets[k].name.size):=k8 (by omega)
   rw [hA]
   clear hro0 hx htk hle hBr hA
   generalize p.secrets[k].name=nm at *
   go_wp2_with fail
   go_roundw
   case rel=>exact ⟨k+1,hlt,by rw [HSum.out];simp only [Value.int.injEq,true_and];omega,by go_num,HB.out⟩
   case measure=>simp [intOf];omega
  ·have hkk:k=p.secrets.length:=by omega
   subst hkk
   rw [ww (wo _)]
   have HB:=k8 hBr
   have hc0:=jb hBr HP0.out
   have hl1:=k9 wr _ hc0
   clear hBr
   go_wp2_with fail
   clear hc0 hl1
   generalize hwr:wr=w2 at *
   clear hwr
   obtain ⟨WA,hWA⟩:∃ WA,wtAs p.secrets=WA:=⟨_,rfl⟩
   rw [hWA]
   have HWA:=k8 hWA
   clear hWA
   go_loopw [3,5] (fun nv iv wr=>∃ k:Nat,k≤p.funcs.length∧nv=.int .i64 (WA+wtGs (p.funcs.take k):Nat)∧iv=.int .i64 k∧Below w2.heap.size w2 wr) (fun nv iv _=>p.funcs.length - (intOf iv).toNat)
   case atStart=>exact ⟨0,gj _,by simp [wtGs],rfl,wu _ _⟩
   case round=>
    obtain ⟨k,hk,rfl,rfl,hBr⟩:=hrel
    by_cases hlt:k<p.funcs.length
    ·obtain ⟨b1,o1,rfl,hro1⟩:=HR1.out (by intro h;rw [h] at hlt;simp at hlt)
     obtain ⟨pa,pc,ba,bc,hx0,-,hx2,hx3,hx⟩:=FunAt.open (hro1 k p.funcs[k] (by simp [hlt]))
     obtain ⟨_,_,_,_,hxe,-,hxp,hxb⟩:=hx
     simp only [Value.agg.injEq,List.toArray_inj,Array.mk.injEq,List.cons.injEq,Value.slice.injEq,true_and,and_true] at hxe
     obtain ⟨⟨rfl,rfl⟩,rfl,rfl⟩:=hxe
     have htk:=wtGs_take p.funcs k hlt
     have hle:=wtGs_le p.funcs (k+1)
     have hBw:Below w.heap.size w wr:=HBx.out.trans ((HB.out.trans (hBr.mono HB.out.size)).mono HBx.out.size)
     have hib:∀ y:World,Below wr.heap.size wr y→Calls Tryz.prog 33 #[.slice ba p.funcs[k].body.length bc] y (Ret y (.int .i64 (wtSs p.funcs[k].body))):=fun y hy=>
      weigh_any (wtSs p.funcs[k].body) p.funcs[k].body _ y (wo _) (by have:=HW1.out;have:=HWA.out;omega) (hxb.imp (fun b o x _ hx=>j9.below (hBw.trans (hy.mono hBw.size)) x b o hx))
     have HX0:=k8 (jb hBw hx0)
     have HX3:=k8 (jb hBw hx3)
     have HX2:=k8 (jb hBw hx2)
     have HXp:=k8 hxp
     have HIB:=k8 hib
     have HIk:=k8 hlt
     have HBk:=k8 hBr
     have HBw:=k8 hBw
     have HPk:=k8 (jb (HB.out.trans (hBr.mono HB.out.size)) HP1.out)
     obtain ⟨A,hA⟩:∃ A:Nat,WA+wtGs (p.funcs.take k)=A:=⟨_,rfl⟩
     have HSum:Hid (WA+wtGs (p.funcs.take (k+1))=A+1+p.funcs[k].name.size+wtSs p.funcs[k].body+wtPs p.funcs[k].params):=k8 (by omega)
     have hbd0:A+1+p.funcs[k].name.size+wtSs p.funcs[k].body+wtPs p.funcs[k].params≤1000000000:=by have:=HW1.out;have:=HWA.out;have:=HSum.out;omega
     have HBd:Hid ((A:Int)+1+p.funcs[k].name.size+wtSs p.funcs[k].body≤1000000000):=k8 (by omega)
     have HBd2:=k8 hbd0
     rw [hA]
     clear hro1 hx0 hx2 hx3 hxp hxb htk hle hBw hib hBr hA hbd0
     generalize p.funcs[k].name=nm at *
     generalize p.funcs[k].body.length=bl at *
     generalize wtSs p.funcs[k].body=V at *
     generalize p.funcs[k].params=ps at *
     have hcf:=HPk.out
     have hlf:=k9 wr _ hcf
     go_wp2_with fail
     clear hcf hlf
     refine je zi [.is (.int .i64 A),.is (.int .i64 (A+1)),.is (.pointer (some ⟨w.heap.size,1,none⟩)),.is (.slice (some ⟨b1,o1,none⟩) p.funcs.length c1),.is (.int .i64 k),.is (.pointer (some ⟨b1,o1+k * 4,none⟩)),.is (.pointer (some ⟨b1,o1+k * 4,none⟩)),.is (.string nm),.is (.int .i64 nm.size),.is (.int .i64 (A+1+nm.size)),.is (.pointer (some ⟨w.heap.size,1,none⟩)),.is (.slice (some ⟨b1,o1,none⟩) p.funcs.length c1),.is (.int .i64 k),.is (.pointer (some ⟨b1,o1+k * 4,none⟩)),.is (.pointer (some ⟨b1,o1+k * 4+3,none⟩)),.is (.slice ba bl bc),.is (.int .i64 V),.is (.int .i64 (A+1+nm.size+V))] (by kernel_rfl) 18 (by decide) (by kernel_rfl) _ rfl ?_ ?_
     ·refine ⟨?_,?_,?_,?_,?_,?_,?_,?_,?_,?_,?_,?_,?_,?_,?_,?_,?_,?_,trivial⟩
      ·refine jc rfl rfl rfl fun x1 y hB hF hD=>?_
       have e3:slot x1 3=.int .i64 A:=hF.at 3 rfl
       clear hB hF
       simp only [execOp,ja,e3]
       first|rfl|(go_simp;try rfl)
      ·refine jc rfl rfl rfl fun x1 y hB hF hD=>?_
       obtain ⟨d0,-⟩:=hD
       have e31:slot x1 31=.int .i64 A:=d0 rfl
       clear hB hF
       simp only [execOp,ja,e31]
       simp [go_sem]
       exact kv (by unfold I64;have:=HBd.out;omega)
      ·refine jc rfl rfl rfl fun x1 y hB hF hD=>?_
       have e1:slot x1 1=.pointer (some ⟨w.heap.size,0,none⟩):=hF.at 1 rfl
       clear hB hF
       simp only [execOp,ja,e1]
       first|rfl|(go_simp;try rfl)
      ·refine jc rfl rfl rfl fun x1 y hB hF hD=>?_
       obtain ⟨d0,-⟩:=hD
       have e33:slot x1 33=.pointer (some ⟨w.heap.size,1,none⟩):=d0 rfl
       have hc:y.cell? ⟨w.heap.size,1,none⟩=some (.slice (some ⟨b1,o1,none⟩) p.funcs.length c1):=jb hB HPk.out
       clear hB hF
       simp only [execOp,ja,e33]
       first|rfl|(go_simp;try rfl)
      ·refine jc rfl rfl rfl fun x1 y hB hF hD=>?_
       have e5:slot x1 5=.int .i64 k:=hF.at 5 rfl
       clear hB hF
       simp only [execOp,ja,e5]
       first|rfl|(go_simp;try rfl)
      ·refine jc rfl rfl rfl fun x1 y hB hF hD=>?_
       obtain ⟨d0,d1,-⟩:=hD
       have e34:slot x1 34=.slice (some ⟨b1,o1,none⟩) p.funcs.length c1:=d0 rfl
       have e35:slot x1 35=.int .i64 k:=d1 rfl
       have hik:k<p.funcs.length:=HIk.out
       clear hB hF
       simp only [execOp,ja,e34,e35]
       first|rfl|(go_simp;try rfl)
      ·refine jc rfl rfl rfl fun x1 y hB hF hD=>?_
       obtain ⟨d0,-⟩:=hD
       have e36:slot x1 36=.pointer (some ⟨b1,o1+k * 4,none⟩):=d0 rfl
       clear hB hF
       simp only [execOp,ja,e36]
       first|rfl|(go_simp;try rfl)
      ·refine jc rfl rfl rfl fun x1 y hB hF hD=>?_
       obtain ⟨d0,-⟩:=hD
       have e37:slot x1 37=.pointer (some ⟨b1,o1+k * 4,none⟩):=d0 rfl
       have hc:y.cell? ⟨b1,o1+k * 4,none⟩=some (.string nm):=jb hB HX0.out
       clear hB hF
       simp only [execOp,ja,e37]
       first|rfl|(go_simp;try rfl)
      ·refine jc rfl rfl rfl fun x1 y hB hF hD=>?_
       obtain ⟨d0,-⟩:=hD
       have e38:slot x1 38=.string nm:=d0 rfl
       have g38:=jh e38
       clear hB hF e38
       simp only [execOp]
       simp [go_sem,g38]
      ·refine jc rfl rfl rfl fun x1 y hB hF hD=>?_
       obtain ⟨d0,d1,-⟩:=hD
       have e32:slot x1 32=.int .i64 (A+1):=d0 rfl
       have e39:slot x1 39=.int .i64 nm.size:=d1 rfl
       clear hB hF
       simp only [execOp,ja,e32,e39]
       simp [go_sem]
       exact kv (by unfold I64;have:=HBd.out;omega)
      ·refine jc rfl rfl rfl fun x1 y hB hF hD=>?_
       have e1:slot x1 1=.pointer (some ⟨w.heap.size,0,none⟩):=hF.at 1 rfl
       clear hB hF
       simp only [execOp,ja,e1]
       first|rfl|(go_simp;try rfl)
      ·refine jc rfl rfl rfl fun x1 y hB hF hD=>?_
       obtain ⟨d0,-⟩:=hD
       have e41:slot x1 41=.pointer (some ⟨w.heap.size,1,none⟩):=d0 rfl
       have hc:y.cell? ⟨w.heap.size,1,none⟩=some (.slice (some ⟨b1,o1,none⟩) p.funcs.length c1):=jb hB HPk.out
       clear hB hF
       simp only [execOp,ja,e41]
       first|rfl|(go_simp;try rfl)
      ·refine jc rfl rfl rfl fun x1 y hB hF hD=>?_
       have e5:slot x1 5=.int .i64 k:=hF.at 5 rfl
       clear hB hF
       simp only [execOp,ja,e5]
       first|rfl|(go_simp;try rfl)
      ·refine jc rfl rfl rfl fun x1 y hB hF hD=>?_
       obtain ⟨d0,d1,-⟩:=hD
       have e42:slot x1 42=.slice (some ⟨b1,o1,none⟩) p.funcs.length c1:=d0 rfl
       have e43:slot x1 43=.int .i64 k:=d1 rfl
       have hik:k<p.funcs.length:=HIk.out
       clear hB hF
       simp only [execOp,ja,e42,e43]
       first|rfl|(go_simp;try rfl)
      ·refine jc rfl rfl rfl fun x1 y hB hF hD=>?_
       obtain ⟨d0,-⟩:=hD
       have e44:slot x1 44=.pointer (some ⟨b1,o1+k * 4,none⟩):=d0 rfl
       clear hB hF
       simp only [execOp,ja,e44]
       first|rfl|(go_simp;try rfl)
      ·refine jc rfl rfl rfl fun x1 y hB hF hD=>?_
       obtain ⟨d0,-⟩:=hD
       have e45:slot x1 45=.pointer (some ⟨b1,o1+k * 4+3,none⟩):=d0 rfl
       have hc:y.cell? ⟨b1,o1+k * 4+3,none⟩=some (.slice ba bl bc):=jb hB HX3.out
       clear hB hF
       simp only [execOp,ja,e45]
       first|rfl|(go_simp;try rfl)
      ·refine jn (f:=33) rfl rfl fun x1 y hB hF hD=>⟨#[.slice ba bl bc],?_,?_⟩
       ·obtain ⟨d0,-⟩:=hD
        have e46:slot x1 46=.slice ba bl bc:=d0 rfl
        have g46:=jh e46
        clear hB hF e46
        simp only [execOp]
        simp [go_sem,g46]
       ·refine (HIB.out y hB).mono ?_
        rintro e w' ⟨rfl,hb⟩
        exact ⟨hb,.inl ⟨_,rfl,rfl⟩⟩
      ·refine jc rfl rfl rfl fun x1 y hB hF hD=>?_
       obtain ⟨d0,d1,-⟩:=hD
       have e40:slot x1 40=.int .i64 (A+1+nm.size):=d0 rfl
       have e47:slot x1 47=.int .i64 V:=d1 rfl
       clear hB hF
       simp only [execOp,ja,e40,e47]
       simp [go_sem]
       exact kv (by unfold I64;have:=HBd.out;omega)
     ·intro x1 y hB hF hP
      obtain ⟨p0,p1,p2,p3,p4,p5,p6,p7,p8,p9,p10,p11,p12,p13,p14,p15,p16,p17,-⟩:=hP
      have hx:=jj hF [(31,.int .i64 A),(32,.int .i64 (A+1)),(33,.pointer (some ⟨w.heap.size,1,none⟩)),(34,.slice (some ⟨b1,o1,none⟩) p.funcs.length c1),(35,.int .i64 k),(36,.pointer (some ⟨b1,o1+k * 4,none⟩)),(37,.pointer (some ⟨b1,o1+k * 4,none⟩)),(38,.string nm),(39,.int .i64 nm.size),(40,.int .i64 (A+1+nm.size)),(41,.pointer (some ⟨w.heap.size,1,none⟩)),(42,.slice (some ⟨b1,o1,none⟩) p.funcs.length c1),(43,.int .i64 k),(44,.pointer (some ⟨b1,o1+k * 4,none⟩)),(45,.pointer (some ⟨b1,o1+k * 4+3,none⟩)),(46,.slice ba bl bc),(47,.int .i64 V),(48,.int .i64 (A+1+nm.size+V))] rfl ⟨p0,p1,p2,p3,p4,p5,p6,p7,p8,p9,p10,p11,p12,p13,p14,p15,p16,p17,trivial⟩
      have HBy:=k8 (HBk.out.trans (hB.mono HBk.out.size))
      have HBwy:=k8 (HBw.out.trans (hB.mono HBw.out.size))
      have HPy:=k8 (jb hB HPk.out)
      have HXy:=k8 (jb hB HX2.out)
      clear hB hF p0 p1 p2 p3 p4 p5 p6 p7 p8 p9 p10 p11 p12 p13 p14 p15 p16 p17 HPk HX0 HX2 HX3 HIB HBk HBw HBd
      subst hx
      simp only [puts,Act.put,we,wg,wi,wj,wk]
      go_wp2_with fail
      obtain ⟨B,hBB⟩:∃ B:Nat,A+1+nm.size+V=B:=⟨_,rfl⟩
      have eB:((A:Int)+1+nm.size+V)=(B:Int):=by omega
      rw [eB]
      rw [hBB] at HSum HBd2
      clear eB hBB
      go_loopw [3,6] (fun nv iv wr=>∃ m:Nat,m≤ps.length∧nv=.int .i64 (B+wtPs (ps.take m):Nat)∧iv=.int .i64 m∧Below y.heap.size y wr) (fun nv iv _=>ps.length - (intOf iv).toNat)
      case atStart=>exact ⟨0,gj _,by simp [wtPs],rfl,wu _ _⟩
      case round=>
       obtain ⟨m,hm,rfl,rfl,hBr⟩:=hrel
       have hik:k<p.funcs.length:=HIk.out
       have hc1:=jb hBr HPy.out
       have hc2:=jb hBr HXy.out
       have hl1:=k9 wr _ hc1
       have hl2:=k9 wr _ hc2
       by_cases hltm:m<ps.length
       ·obtain ⟨_,_,he,hpc,hpm,hpr⟩:=HXp.out
        simp only [Value.slice.injEq] at he
        obtain ⟨rfl,-,rfl⟩:=he
        obtain ⟨b2,o2,rfl,hrp⟩:=hpr (by intro h;rw [h] at hltm;simp at hltm)
        have hx:=hrp m ps[m] (by simp [hltm])
        have htk:=wtPs_take ps m hltm
        have hle:=wtPs_le ps (m+1)
        have hc3:=jb (HBwy.out.trans (hBr.mono HBwy.out.size)) hx.1.1
        have hl3:=k9 wr _ hc3
        have HBm:=k8 hBr
        obtain ⟨C,hC⟩:∃ C:Nat,B+wtPs (ps.take m)=C:=⟨_,rfl⟩
        have hbd:(C:Int)+1+ps[m].name.size≤1000000000:=by have:=HBd2.out;omega
        have HSm:Hid (B+wtPs (ps.take (m+1))=C+1+ps[m].name.size):=k8 (by omega)
        rw [hC]
        clear hrp hx htk hle hBr hC hpr
        generalize ps[m].name=qm at *
        go_wp2_with fail
        go_roundw
        case rel=>exact ⟨m+1,hltm,by rw [HSm.out];simp only [Value.int.injEq,true_and];omega,by go_num,HBm.out⟩
        case measure=>simp [intOf];omega
       ·have hmm:m=ps.length:=by omega
        subst hmm
        rw [ww (wo _)]
        have HBm:=k8 (HBy.out.trans (hBr.mono HBy.out.size))
        have hn3:((B+wtPs ps:Nat):Int)=((WA+wtGs (p.funcs.take (k+1)):Nat):Int):=by have:=HSum.out;omega
        rw [hn3]
        clear hBr hn3
        go_wp2_with fail
        go_roundw
        case rel=>exact ⟨k+1,hik,rfl,by go_num,HBm.out⟩
        case measure=>simp [intOf];omega
    ·have hkk:k=p.funcs.length:=by omega
     subst hkk
     have hn3:((WA+wtGs (p.funcs.take p.funcs.length):Nat):Int)=((kj p:Nat):Int):=by rw [ww (wo _)];unfold kj;have:=HWA.out;omega
     rw [hn3]
     have HBe:=k8 (HBx.out.trans ((HB.out.trans (hBr.mono HB.out.size)).mono HBx.out.size))
     have hc1:=jb (HB.out.trans (hBr.mono HB.out.size)) HP1.out
     have hl1:=k9 wr _ hc1
     clear hBr hn3
     go_wp2_with fail
     go_ret
     exact ⟨rfl,HBe.out⟩
end
section
open Go.RowKit
theorem run_loadVar_two {P:Program} (w:World) (g o:Nat) (ty:TypeId) (u v:Value) (d:TypeDesc) (h0:w.cell? ⟨g,o,none⟩=some u) (h1:w.cell? ⟨g,o+1,none⟩=some v)
  (hu:P.underlying ty=some d) (hd:(match d with|.struct _|.array _ _=>true|_=>false)=true) (hi:(P.info? ty).map (·.size)=some 2) :
  (loadVar ty ⟨g,o,none⟩).run P w=.ok (.agg #[u,v]) w:=by
 have hl:(loadCells ⟨g,o,none⟩ [u,v].length).run P w=.ok [u,v].toArray w:=
  run_loadCells_list (P:=P) w ⟨g,o,none⟩ [u,v] (fun j x hj=>by
   have hadd:(⟨g,o,none⟩:Addr).add j=⟨g,o+j,none⟩:=by unfold Addr.add;split<;>simp_all
   rw [hadd]
   match j,hj with
   | 0,hj=>simp at hj;subst hj;exact h0
   | 1,hj=>simp at hj;subst hj;exact h1
   | j+2,hj=>simp at hj)
 cases hq:P.info? ty with
 | none=>simp [hq] at hi
 | some i=>
  have hs:i.size=2:=by simpa [hq] using hi
  have hagg:(isAgg ty).run P w=.ok true w:=by
   unfold isAgg
   rw [Sem.run_bind,run_underlying hu w]
   cases d<;>simp_all
  simp only [List.length_cons,List.length_nil] at hl
  simp [loadVar,Sem.run_bind,hagg,sizeOf,typeInfo,hq,hs,hl]
theorem wp_load_two {P:Program} {o:Oper} {a:Act} {w:World} {K:Act→World→Prop} {Q:Exit→Act→World→Prop} (ty:TypeId) (x:Operand) (ho:o.op=.load ty x)
  (g f:Nat) (hx:a.eval x=.pointer (some ⟨g,f,none⟩)) (u v:Value) (d:TypeDesc) (h0:w.cell? ⟨g,f,none⟩=some u) (h1:w.cell? ⟨g,f+1,none⟩=some v)
  (hu:P.underlying ty=some d) (hd:(match d with|.struct _|.array _ _=>true|_=>false)=true) (hi:(P.info? ty).map (·.size)=some 2)
  (h:K (a.put o.dst (.agg #[u,v])) w):o.wp P a w K Q:=by
 unfold Oper.wp execOp
 simp only [ho,hx,Instr.loadAt,Instr.sureAddr,Sem.run_bind,Sem.run_pure,Result.andThen_ok,run_loadVar_two w g f ty u v d h0 h1 hu hd hi]
 exact h
theorem vj {P:Program} {ops:Array Oper} {rest:List Oper} {o:Oper} {a:Act} {w:World} {Q:Exit→Act→World→Prop} (ty:TypeId) (x:Operand) (ho:o.op=.load ty x)
  (g f:Nat) (hx:a.eval x=.pointer (some ⟨g,f,none⟩)) (u v:Value) (d:TypeDesc) (h0:w.cell? ⟨g,f,none⟩=some u) (h1:w.cell? ⟨g,f+1,none⟩=some v)
  (hu:P.underlying ty=some d) (hd:(match d with|.struct _|.array _ _=>true|_=>false)=true) (hi:(P.info? ty).map (·.size)=some 2) (hw:Region.wanted o (yielded ops a.tmps)=true)
  (h:wpList P ops Q rest (a.put o.dst (.agg #[u,v])) w):wpList P ops Q (o::rest) a w:=by
 unfold wpList
 rw [if_pos hw]
 exact .inl (wp_load_two ty x ho g f hx u v d h0 h1 hu hd hi h)
def xq (l:List (List Int)) (m:List Int) (l':List (List Int)) (m':List Int):Bool:=decide (l=l') && decide (m=m')
theorem Worlds_any (v u:Value) (l l':List (List Int)) (m m':List Int) (w:World) (h1:WorldIs w l m v) (h2:WorldIs w l' m' u):Calls Tryz.prog 16 #[v,u] w (Ret w (.bool (xq l m l' m'))):=by
 obtain ⟨a0,c0,a1,c1,rfl,⟨_,_,he0,hc0,hm0,hr0⟩,hM⟩:=h1
 obtain ⟨a2,c2,a3,c3,rfl,⟨_,_,he2,hc2,hm2,hr2⟩,hM'⟩:=h2
 simp only [Value.slice.injEq] at he0 he2
 obtain ⟨rfl,-,rfl⟩:=he0
 obtain ⟨rfl,-,rfl⟩:=he2
 have HR0:=k8 hr0
 have HR2:=k8 hr2
 have hb1:=(wu w.heap.size w).alloc (wo _) (.cells #[.slice a0 l.length c0,.slice a1 m.length c1] 29)
 have hb2:=(wu (w.alloc (.cells #[.slice a0 l.length c0,.slice a1 m.length c1] 29)).heap.size (w.alloc (.cells #[.slice a0 l.length c0,.slice a1 m.length c1] 29))).alloc (wo _) (.cells #[.slice a2 l'.length c2,.slice a3 m'.length c3] 29)
 have hz:(w.alloc (.cells #[.slice a0 l.length c0,.slice a1 m.length c1] 29)).heap.size=w.heap.size+1:=by simp
 have e1:=ji hb2 (Go.heap_alloc_new w (.cells #[.slice a0 l.length c0,.slice a1 m.length c1] 29))
 have e2:=Go.heap_alloc_new (w.alloc (.cells #[.slice a0 l.length c0,.slice a1 m.length c1] 29)) (.cells #[.slice a2 l'.length c2,.slice a3 m'.length c3] 29)
 rw [hz] at e2
 have hB0:Below w.heap.size w ((w.alloc (.cells #[.slice a0 l.length c0,.slice a1 m.length c1] 29)).alloc (.cells #[.slice a2 l'.length c2,.slice a3 m'.length c3] 29)):=hb1.trans (hb2.mono (by omega))
 have HP0:=k8 (show ((w.alloc (.cells #[.slice a0 l.length c0,.slice a1 m.length c1] 29)).alloc (.cells #[.slice a2 l'.length c2,.slice a3 m'.length c3] 29)).cell? ⟨w.heap.size,0,none⟩=some (.slice a0 l.length c0) from cell_of_row _ _ 0 _ _ _ e1)
 have HP1:=k8 (show ((w.alloc (.cells #[.slice a0 l.length c0,.slice a1 m.length c1] 29)).alloc (.cells #[.slice a2 l'.length c2,.slice a3 m'.length c3] 29)).cell? ⟨w.heap.size,1,none⟩=some (.slice a1 m.length c1) from cell_of_row _ _ 1 _ _ _ e1)
 have HP2:=k8 (show ((w.alloc (.cells #[.slice a0 l.length c0,.slice a1 m.length c1] 29)).alloc (.cells #[.slice a2 l'.length c2,.slice a3 m'.length c3] 29)).cell? ⟨w.heap.size+1,0,none⟩=some (.slice a2 l'.length c2) from cell_of_row _ _ 0 _ _ _ e2)
 have HP3:=k8 (show ((w.alloc (.cells #[.slice a0 l.length c0,.slice a1 m.length c1] 29)).alloc (.cells #[.slice a2 l'.length c2,.slice a3 m'.length c3] 29)).cell? ⟨w.heap.size+1,1,none⟩=some (.slice a3 m'.length c3) from cell_of_row _ _ 1 _ _ _ e2)
 have hs2:w.heap.size+1<((w.alloc (.cells #[.slice a0 l.length c0,.slice a1 m.length c1] 29)).alloc (.cells #[.slice a2 l'.length c2,.slice a3 m'.length c3] 29)).heap.size:=(wl.1 e2).1
 have HL:=k8 (longs_any _ _ m m' ((w.alloc (.cells #[.slice a0 l.length c0,.slice a1 m.length c1] 29)).alloc (.cells #[.slice a2 l'.length c2,.slice a3 m'.length c3] 29)) (hM.below hB0) (hM'.below hB0))
 have HB0:=k8 hB0
 clear hr0 hr2 hM hM' hb1 hb2 hz e1 e2 hB0
 by_cases hln:l.length=l'.length
 ·have hne:((l.length:Int) != l'.length)=false:=by simp;omega
  have HLn:=k8 hln
  clear hln
  have q0:=HP0.out
  have q1:=HP1.out
  have q2:=HP2.out
  have q3:=HP3.out
  have hs1:w.heap.size<((w.alloc (.cells #[.slice a0 l.length c0,.slice a1 m.length c1] 29)).alloc (.cells #[.slice a2 l'.length c2,.slice a3 m'.length c3] 29)).heap.size:=by omega
  go_enter Tryz.func16,Tryz.ntmps16
  go_wp2_with fail
  refine HL.out.mono ?_
  rintro e w1 ⟨rfl,hb⟩
  have HQ0:=k8 (jb hb HP0.out)
  have HQ2:=k8 (jb hb HP2.out)
  have HB1:=k8 (HB0.out.trans (hb.mono HB0.out.size))
  clear q0 q1 q2 q3 hs1 hs2 hb HL HB0 HP0 HP1 HP2 HP3
  cases hdm:decide (m=m') with
  | false=>
   have HD:Hid (xq l m l' m'=false):=by unfold xq;rw [hdm,Bool.and_false];exact k8 rfl
   go_wp2_with fail
   go_ret
   exact ⟨by rw [HD.out];rfl,HB1.out⟩
  | true=>
   have HD:Hid (xq l m l' m'=decide (l=l')):=by unfold xq;rw [hdm,Bool.and_true];exact k8 rfl
   go_wp2_with fail
   go_loopw [5] (fun iv wr=>∃ k:Nat,k≤l.length∧iv=.int .i64 k∧Below w1.heap.size w1 wr∧l.take k=l'.take k) (fun iv _=>l.length - (intOf iv).toNat)
   case atStart=>exact ⟨0,gj _,rfl,wu _ _,rfl⟩
   case round=>
    obtain ⟨k,hk,rfl,hBr,hP⟩:=hrel
    have hc0r:=jb hBr HQ0.out
    have hlt0:=k9 wr _ hc0r
    by_cases hlt:k<l.length
    ·have hltx:k<l'.length:=by have:=HLn.out;omega
     obtain ⟨b0,o0,rfl,hro0⟩:=HR0.out (by intro h;rw [h] at hlt;simp at hlt)
     obtain ⟨b2,o2,rfl,hro2⟩:=HR2.out (by intro h;rw [h] at hltx;simp at hltx)
     obtain ⟨uk,hu,huw⟩:=hro0 k l[k] (by simp [hlt])
     obtain ⟨vk,hv,hvw⟩:=hro2 k l'[k] (by simp [hltx])
     rw [Nat.mul_one] at hu hv
     have hBw:Below w.heap.size w wr:=HB1.out.trans (hBr.mono HB1.out.size)
     have HU:=k8 (jb hBw hu)
     have HV:=k8 (jb hBw hv)
     have hlo:∀ y:World,Below wr.heap.size wr y→Calls Tryz.prog 19 #[uk,vk] y (Ret y (.bool (decide (l[k]=l'[k])))):=fun y hy=>longs_any _ _ _ _ y (huw.below (hBw.trans (hy.mono hBw.size))) (hvw.below (hBw.trans (hy.mono hBw.size)))
     have hstep:l.take (k+1)=l'.take (k+1) ↔ l[k]=l'[k]:=by
      rw [List.take_succ_eq_append_getElem hlt,List.take_succ_eq_append_getElem hltx,hP]
      exact ⟨fun h=>by have:=List.append_cancel_left h;simpa using this,fun h=>by rw [h]⟩
     have hdiff:¬ l[k]=l'[k]→¬ l=l':=by
      intro h e
      subst e
      exact h rfl
     have HIk:Hid (k<l.length∧k<l'.length):=k8 ⟨hlt,hltx⟩
     have HSt:=k8 hstep
     have HDf:=k8 hdiff
     have HLo:=k8 hlo
     have HB:=k8 hBr
     have HT0:=k8 (jb hBr HQ0.out)
     have HT2:=k8 (jb hBr HQ2.out)
     clear hu hv huw hvw hro0 hro2 hstep hdiff hlo hBr hP hBw
     generalize l[k]=xv at *
     generalize l'[k]=yv at *
     obtain ⟨B,hBB⟩:∃ B,decide (xv=yv)=B:=⟨_,rfl⟩
     rw [hBB] at HLo
     have HBB:=k8 hBB
     clear hBB
     go_wp2_with fail
     clear hc0r hlt0
     refine je zi [.is (.pointer (some ⟨w.heap.size,0,none⟩)),.is (.slice (some ⟨b0,o0,none⟩) l.length c0),.is (.int .i64 k),.is (.pointer (some ⟨b0,o0+k,none⟩)),.is (uk),.is (.pointer (some ⟨w.heap.size+1,0,none⟩)),.is (.slice (some ⟨b2,o2,none⟩) l'.length c2),.is (.int .i64 k),.is (.pointer (some ⟨b2,o2+k,none⟩)),.is (vk),.is (.bool B)] (by kernel_rfl) 11 (by decide) (by kernel_rfl) _ rfl ?_ ?_
     ·refine ⟨?_,?_,?_,?_,?_,?_,?_,?_,?_,?_,?_,trivial⟩
      ·refine jc rfl rfl rfl fun x1 y hB hF hD=>?_
       have e2:slot x1 2=.pointer (some ⟨w.heap.size,0,none⟩):=hF.at 2 rfl
       clear hB hF
       simp only [execOp,ja,e2]
       first|rfl|(go_simp;try rfl)
      ·refine jc rfl rfl rfl fun x1 y hB hF hD=>?_
       obtain ⟨d0,-⟩:=hD
       have e28:slot x1 28=.pointer (some ⟨w.heap.size,0,none⟩):=d0 rfl
       have hc:y.cell? ⟨w.heap.size,0,none⟩=some (.slice (some ⟨b0,o0,none⟩) l.length c0):=jb hB HT0.out
       clear hB hF
       simp only [execOp,ja,e28]
       first|rfl|(go_simp;try rfl)
      ·refine jc rfl rfl rfl fun x1 y hB hF hD=>?_
       have e5:slot x1 5=.int .i64 k:=hF.at 5 rfl
       clear hB hF
       simp only [execOp,ja,e5]
       first|rfl|(go_simp;try rfl)
      ·refine jc rfl rfl rfl fun x1 y hB hF hD=>?_
       obtain ⟨d0,d1,-⟩:=hD
       have e29:slot x1 29=.slice (some ⟨b0,o0,none⟩) l.length c0:=d0 rfl
       have e30:slot x1 30=.int .i64 k:=d1 rfl
       have hik:k<l.length:=HIk.out.1
       clear hB hF
       simp only [execOp,ja,e29,e30]
       first|rfl|(go_simp;try rfl)
      ·refine jc rfl rfl rfl fun x1 y hB hF hD=>?_
       obtain ⟨d0,-⟩:=hD
       have e31:slot x1 31=.pointer (some ⟨b0,o0+k,none⟩):=d0 rfl
       have hc:y.cell? ⟨b0,o0+k,none⟩=some uk:=jb hB HU.out
       clear hB hF
       simp only [execOp,ja,e31]
       first|rfl|(go_simp;try rfl)
      ·refine jc rfl rfl rfl fun x1 y hB hF hD=>?_
       have e3:slot x1 3=.pointer (some ⟨w.heap.size+1,0,none⟩):=hF.at 3 rfl
       clear hB hF
       simp only [execOp,ja,e3]
       first|rfl|(go_simp;try rfl)
      ·refine jc rfl rfl rfl fun x1 y hB hF hD=>?_
       obtain ⟨d0,-⟩:=hD
       have e33:slot x1 33=.pointer (some ⟨w.heap.size+1,0,none⟩):=d0 rfl
       have hc:y.cell? ⟨w.heap.size+1,0,none⟩=some (.slice (some ⟨b2,o2,none⟩) l'.length c2):=jb hB HT2.out
       clear hB hF
       simp only [execOp,ja,e33]
       first|rfl|(go_simp;try rfl)
      ·refine jc rfl rfl rfl fun x1 y hB hF hD=>?_
       have e5:slot x1 5=.int .i64 k:=hF.at 5 rfl
       clear hB hF
       simp only [execOp,ja,e5]
       first|rfl|(go_simp;try rfl)
      ·refine jc rfl rfl rfl fun x1 y hB hF hD=>?_
       obtain ⟨d0,d1,-⟩:=hD
       have e34:slot x1 34=.slice (some ⟨b2,o2,none⟩) l'.length c2:=d0 rfl
       have e35:slot x1 35=.int .i64 k:=d1 rfl
       have hik:k<l'.length:=HIk.out.2
       clear hB hF
       simp only [execOp,ja,e34,e35]
       first|rfl|(go_simp;try rfl)
      ·refine jc rfl rfl rfl fun x1 y hB hF hD=>?_
       obtain ⟨d0,-⟩:=hD
       have e36:slot x1 36=.pointer (some ⟨b2,o2+k,none⟩):=d0 rfl
       have hc:y.cell? ⟨b2,o2+k,none⟩=some vk:=jb hB HV.out
       clear hB hF
       simp only [execOp,ja,e36]
       first|rfl|(go_simp;try rfl)
      ·refine jn (f:=19) rfl rfl fun x1 y hB hF hD=>⟨#[uk,vk],?_,?_⟩
       ·obtain ⟨d0,d1,-⟩:=hD
        have e32:slot x1 32=uk:=d0 rfl
        have e37:slot x1 37=vk:=d1 rfl
        have g32:=jh e32
        have g37:=jh e37
        clear hB hF e32 e37
        simp only [execOp]
        simp [go_sem,g32,g37]
       ·refine (HLo.out y hB).mono ?_
        rintro e w' ⟨rfl,hb⟩
        exact ⟨hb,.inl ⟨_,rfl,rfl⟩⟩
     ·intro x1 y hB hF hP
      obtain ⟨p0,p1,p2,p3,p4,p5,p6,p7,p8,p9,p10,-⟩:=hP
      have hx:=jj hF [(28,.pointer (some ⟨w.heap.size,0,none⟩)),(29,.slice (some ⟨b0,o0,none⟩) l.length c0),(30,.int .i64 k),(31,.pointer (some ⟨b0,o0+k,none⟩)),(32,uk),(33,.pointer (some ⟨w.heap.size+1,0,none⟩)),(34,.slice (some ⟨b2,o2,none⟩) l'.length c2),(35,.int .i64 k),(36,.pointer (some ⟨b2,o2+k,none⟩)),(37,vk),(38,.bool B)] rfl ⟨p0,p1,p2,p3,p4,p5,p6,p7,p8,p9,p10,trivial⟩
      have HB2:=k8 (HB.out.trans (hB.mono HB.out.size))
      clear hB hF p0 p1 p2 p3 p4 p5 p6 p7 p8 p9 p10
      subst hx
      simp only [puts,Act.put,we,wg,wi,wj,wk]
      cases B with
      | true=>
       have HE:=k8 (of_decide_eq_true HBB.out)
       go_wp2_with fail
       go_roundw
       case rel=>exact ⟨k+1,hlt,by go_num,HB2.out,HSt.out.2 HE.out⟩
       case measure=>simp [intOf];omega
      | false=>
       have hD:=HDf.out (of_decide_eq_false HBB.out)
       have hd:xq l m l' m'=false:=by rw [HD.out];simp [hD]
       have HE:=k8 hd
       have HBe:=k8 (HB1.out.trans (HB2.out.mono HB1.out.size))
       clear hD hd
       go_wp2_with fail
       go_ret
       exact ⟨by rw [HE.out];rfl,HBe.out⟩
    ·have hkk:k=l.length:=by omega
     subst hkk
     have hd:xq l m l' m'=true:=by
      rw [ww (wo _),ww (by have:=HLn.out;omega)] at hP
      rw [HD.out]
      simp [hP]
     have HE:=k8 hd
     have HBe:=k8 (HB1.out.trans (hBr.mono HB1.out.size))
     clear hd hP hBr
     go_wp2_with fail
     go_ret
     exact ⟨by rw [HE.out];rfl,HBe.out⟩
 ·have hne:((l.length:Int) != l'.length)=true:=by simp;omega
  have hd:xq l m l' m'=false:=by
   unfold xq
   have:decide (l=l')=false:=by
    simp only [decide_eq_false_iff_not]
    intro h
    exact hln (by rw [h])
   rw [this,Bool.false_and]
  have HD:=k8 hd
  have q0:=HP0.out
  have q2:=HP2.out
  have hs1:w.heap.size<((w.alloc (.cells #[.slice a0 l.length c0,.slice a1 m.length c1] 29)).alloc (.cells #[.slice a2 l'.length c2,.slice a3 m'.length c3] 29)).heap.size:=by omega
  clear hln hd
  go_enter Tryz.func16,Tryz.ntmps16
  go_wp2_with fail
  go_ret
  exact ⟨by rw [HD.out];rfl,HB0.out⟩
end
section
open Go.RowKit
def sameB (o p:Out):Bool:=decide (o.value=p.value) && (decide (o.opened=p.opened) && xq o.secs o.shared p.secs p.shared)
theorem Same_any (v u:Value) (o p:Out) (w:World) (h1:OutIs w o v) (h2:OutIs w p u):Calls Tryz.prog 15 #[v,u] w (Ret w (.bool (sameB o p))):=by
 obtain ⟨a1,c1,a2,c2,a3,c3,rfl,hO1,hO2,hO3⟩:=h1
 obtain ⟨d1,e1,d2,e2,d3,e3,rfl,hP1,hP2,hP3⟩:=h2
 have hb1:=(wu w.heap.size w).alloc (wo _) (.cells #[.int .u64 o.value,.slice a1 o.opened.length c1,.slice a2 o.secs.length c2,.slice a3 o.shared.length c3] 37)
 have hb2:=(wu (w.alloc (.cells #[.int .u64 o.value,.slice a1 o.opened.length c1,.slice a2 o.secs.length c2,.slice a3 o.shared.length c3] 37)).heap.size (w.alloc (.cells #[.int .u64 o.value,.slice a1 o.opened.length c1,.slice a2 o.secs.length c2,.slice a3 o.shared.length c3] 37))).alloc (wo _) (.cells #[.int .u64 p.value,.slice d1 p.opened.length e1,.slice d2 p.secs.length e2,.slice d3 p.shared.length e3] 37)
 have hz:(w.alloc (.cells #[.int .u64 o.value,.slice a1 o.opened.length c1,.slice a2 o.secs.length c2,.slice a3 o.shared.length c3] 37)).heap.size=w.heap.size+1:=by simp
 have r1:=ji hb2 (Go.heap_alloc_new w (.cells #[.int .u64 o.value,.slice a1 o.opened.length c1,.slice a2 o.secs.length c2,.slice a3 o.shared.length c3] 37))
 have r2:=Go.heap_alloc_new (w.alloc (.cells #[.int .u64 o.value,.slice a1 o.opened.length c1,.slice a2 o.secs.length c2,.slice a3 o.shared.length c3] 37)) (.cells #[.int .u64 p.value,.slice d1 p.opened.length e1,.slice d2 p.secs.length e2,.slice d3 p.shared.length e3] 37)
 rw [hz] at r2
 have hB0:Below w.heap.size w ((w.alloc (.cells #[.int .u64 o.value,.slice a1 o.opened.length c1,.slice a2 o.secs.length c2,.slice a3 o.shared.length c3] 37)).alloc (.cells #[.int .u64 p.value,.slice d1 p.opened.length e1,.slice d2 p.secs.length e2,.slice d3 p.shared.length e3] 37)):=hb1.trans (hb2.mono (by omega))
 have hc0:=cell_of_row _ _ 0 _ _ _ r1
 have hc4:=cell_of_row _ _ 0 _ _ _ r2
 have hc1:=cell_of_row _ _ 1 _ _ _ r1
 have hc5:=cell_of_row _ _ 1 _ _ _ r2
 simp only [List.getElem?_toArray,List.getElem?_cons_zero,List.getElem?_cons_succ] at hc0 hc4 hc1 hc5
 have P2:=k8 (show ((w.alloc (.cells #[.int .u64 o.value,.slice a1 o.opened.length c1,.slice a2 o.secs.length c2,.slice a3 o.shared.length c3] 37)).alloc (.cells #[.int .u64 p.value,.slice d1 p.opened.length e1,.slice d2 p.secs.length e2,.slice d3 p.shared.length e3] 37)).cell? ⟨w.heap.size,2,none⟩=some (.slice a2 o.secs.length c2) from cell_of_row _ _ 2 _ _ _ r1)
 have P3:=k8 (show ((w.alloc (.cells #[.int .u64 o.value,.slice a1 o.opened.length c1,.slice a2 o.secs.length c2,.slice a3 o.shared.length c3] 37)).alloc (.cells #[.int .u64 p.value,.slice d1 p.opened.length e1,.slice d2 p.secs.length e2,.slice d3 p.shared.length e3] 37)).cell? ⟨w.heap.size,3,none⟩=some (.slice a3 o.shared.length c3) from cell_of_row _ _ 3 _ _ _ r1)
 have P6:=k8 (show ((w.alloc (.cells #[.int .u64 o.value,.slice a1 o.opened.length c1,.slice a2 o.secs.length c2,.slice a3 o.shared.length c3] 37)).alloc (.cells #[.int .u64 p.value,.slice d1 p.opened.length e1,.slice d2 p.secs.length e2,.slice d3 p.shared.length e3] 37)).cell? ⟨w.heap.size+1,2,none⟩=some (.slice d2 p.secs.length e2) from cell_of_row _ _ 2 _ _ _ r2)
 have P7:=k8 (show ((w.alloc (.cells #[.int .u64 o.value,.slice a1 o.opened.length c1,.slice a2 o.secs.length c2,.slice a3 o.shared.length c3] 37)).alloc (.cells #[.int .u64 p.value,.slice d1 p.opened.length e1,.slice d2 p.secs.length e2,.slice d3 p.shared.length e3] 37)).cell? ⟨w.heap.size+1,3,none⟩=some (.slice d3 p.shared.length e3) from cell_of_row _ _ 3 _ _ _ r2)
 have hs2:w.heap.size+1<((w.alloc (.cells #[.int .u64 o.value,.slice a1 o.opened.length c1,.slice a2 o.secs.length c2,.slice a3 o.shared.length c3] 37)).alloc (.cells #[.int .u64 p.value,.slice d1 p.opened.length e1,.slice d2 p.secs.length e2,.slice d3 p.shared.length e3] 37)).heap.size:=(wl.1 r2).1
 have hs1:w.heap.size<((w.alloc (.cells #[.int .u64 o.value,.slice a1 o.opened.length c1,.slice a2 o.secs.length c2,.slice a3 o.shared.length c3] 37)).alloc (.cells #[.int .u64 p.value,.slice d1 p.opened.length e1,.slice d2 p.secs.length e2,.slice d3 p.shared.length e3] 37)).heap.size:=by omega
 have HL:=k8 (longs_any _ _ o.opened p.opened ((w.alloc (.cells #[.int .u64 o.value,.slice a1 o.opened.length c1,.slice a2 o.secs.length c2,.slice a3 o.shared.length c3] 37)).alloc (.cells #[.int .u64 p.value,.slice d1 p.opened.length e1,.slice d2 p.secs.length e2,.slice d3 p.shared.length e3] 37)) (hO1.below hB0) (hP1.below hB0))
 have HW:Hid (∀ y,Below ((w.alloc (.cells #[.int .u64 o.value,.slice a1 o.opened.length c1,.slice a2 o.secs.length c2,.slice a3 o.shared.length c3] 37)).alloc (.cells #[.int .u64 p.value,.slice d1 p.opened.length e1,.slice d2 p.secs.length e2,.slice d3 p.shared.length e3] 37)).heap.size ((w.alloc (.cells #[.int .u64 o.value,.slice a1 o.opened.length c1,.slice a2 o.secs.length c2,.slice a3 o.shared.length c3] 37)).alloc (.cells #[.int .u64 p.value,.slice d1 p.opened.length e1,.slice d2 p.secs.length e2,.slice d3 p.shared.length e3] 37)) y→Calls Tryz.prog 16 #[.agg #[.slice a2 o.secs.length c2,.slice a3 o.shared.length c3],.agg #[.slice d2 p.secs.length e2,.slice d3 p.shared.length e3]] y (Ret y (.bool (xq o.secs o.shared p.secs p.shared)))):=k8 (fun y hy=>
  have hy:=hB0.trans (hy.mono hB0.size)
  Worlds_any _ _ _ _ _ _ y ⟨a2,c2,a3,c3,rfl,hO2.imp (fun b o x _ hx=>hx.below hy x b o),hO3.below hy⟩ ⟨d2,e2,d3,e3,rfl,hP2.imp (fun b o x _ hx=>hx.below hy x b o),hP3.below hy⟩)
 have HB0:=k8 hB0
 clear hO1 hO2 hO3 hP1 hP2 hP3 hb1 hb2 hz r1 r2 hB0
 by_cases hv:o.value=p.value
 ·have tq:(o.value == p.value)=true:=by simp [hv]
  have HS:Hid (sameB o p=(decide (o.opened=p.opened) && xq o.secs o.shared p.secs p.shared)):=by
   show _=_
   unfold sameB
   rw [decide_eq_true hv,Bool.true_and]
  clear hv
  go_enter Tryz.func15,Tryz.ntmps15
  go_wp2_with fail
  refine HL.out.mono ?_
  rintro e w1 ⟨rfl,hb⟩
  have Q2:=k8 (jb hb P2.out)
  have Q3:=k8 (jb hb P3.out)
  have Q6:=k8 (jb hb P6.out)
  have Q7:=k8 (jb hb P7.out)
  have HBb:=k8 hb
  have HB1:=k8 (HB0.out.trans (hb.mono HB0.out.size))
  have hb0:=jb hb hc0
  have hs1':=k9 w1 _ hb0
  have hb4:=jb hb hc4
  have hs2':=k9 w1 _ hb4
  clear hc0 hc1 hc4 hc5 hs1 hs2 hb hb0 hb4 HL HB0 P2 P3 P6 P7 tq
  cases hd:decide (o.opened=p.opened) with
  | false=>
   have HD:Hid (sameB o p=false):=by show _=_;rw [HS.out,hd,Bool.false_and]
   clear hd
   go_wp2_with fail
   go_ret
   exact ⟨by rw [HD.out];rfl,HB1.out⟩
  | true=>
   have HD:Hid (sameB o p=xq o.secs o.shared p.secs p.shared):=by show _=_;rw [HS.out,hd,Bool.true_and]
   have HW1:=k8 (HW.out w1 HBb.out)
   clear hd HW HBb
   go_wp2_with ((first|refine vj 29 _ rfl w.heap.size 2 rfl _ _ _ Q2.out Q3.out Tryz.underlying29 rfl (by kernel_rfl) (by first|rfl|kernel_rfl) ?_|refine vj 29 _ rfl (w.heap.size+1) 2 rfl _ _ _ Q6.out Q7.out Tryz.underlying29 rfl (by kernel_rfl) (by first|rfl|kernel_rfl) ?_))
   refine HW1.out.mono ?_
   rintro e w2 ⟨rfl,hb2⟩
   have HB2:=k8 (HB1.out.trans (hb2.mono HB1.out.size))
   clear hb2
   rw [← HD.out]
   generalize sameB o p=B at *
   go_wp2_with fail
   go_ret
   exact ⟨rfl,HB2.out⟩
 ·have tq:(o.value == p.value)=false:=by simp [hv]
  have HD:Hid (sameB o p=false):=by
   show _=_
   unfold sameB
   rw [decide_eq_false hv,Bool.false_and]
  clear hv
  go_enter Tryz.func15,Tryz.ntmps15
  go_wp2_with fail
  go_ret
  exact ⟨by rw [HD.out];rfl,HB0.out⟩
end
section
open Go.RowKit
def sumL:List (List Int)→Nat
 | []=>0
 | x::l=>x.length+sumL l
theorem sumL_take (l:List (List Int)) (k:Nat) (h:k<l.length):sumL (l.take (k+1))=sumL (l.take k)+l[k].length:=by
 induction l generalizing k with
 | nil=>simp at h
 | cons e es ih=>
  cases k with
  | zero=>simp [sumL]
  | succ k=>
   have:=ih k (by simpa using h)
   simp only [List.take_succ_cons,sumL,List.getElem_cons_succ]
   omega
theorem sumL_le (l:List (List Int)) (h:∀ x∈l,x.length≤140737488351232):∀ k,sumL (l.take k)≤k * 140737488351232:=by
 induction l with
 | nil=>intro k;simp [sumL]
 | cons e es ih=>
  intro k
  cases k with
  | zero=>simp [sumL]
  | succ k=>
   have h1:=ih (fun x hx=>h x (by simp [hx])) k
   have h2:=h e (by simp)
   simp only [List.take_succ_cons,sumL]
   omega
def smallB (p:Src) (args:List Int) (secs:List (List Int)) (shared:List Int):Bool:=
 decide (kj p≤3000) && (decide (secs.length≤100) && (decide (sumL (secs.take 100)≤5000) && (decide (shared.length≤1000) && decide (args.length≤100))))
def CallIs (w:World) (f:Int) (args:List Int) (secs:List (List Int)) (shared:List Int) (v:Value):Prop:=∃ a1 c1 a2 c2 a3 c3,v=.agg #[.int .i64 f,.slice a1 args.length c1,.slice a2 secs.length c2,.slice a3 shared.length c3]∧WSl w (.slice a1 args.length c1) args∧Sl 1 (WAt w) (.slice a2 secs.length c2) secs∧WSl w (.slice a3 shared.length c3) shared
theorem small_any (p:Src) (f:Int) (args:List Int) (secs:List (List Int)) (shared:List Int) (v u:Value) (w:World) (hw:kj p≤1000000000) (hI:kn w p v) (hC:CallIs w f args secs shared u):Calls Tryz.prog 11 #[v,u] w (Ret w (.bool (smallB p args secs shared))):=by
 have HI:=k8 hI
 obtain ⟨a0,c0,b0,d0,rfl,-,-⟩:=hI
 obtain ⟨a1,c1,a2,c2,a3,c3,rfl,hA,⟨_,_,he2,hc2,hm2,hr2⟩,hS⟩:=hC
 simp only [Value.slice.injEq] at he2
 obtain ⟨rfl,-,rfl⟩:=he2
 obtain ⟨_,_,heA,hAl⟩:=wsl_open hA
 obtain ⟨_,_,heS,hSl⟩:=wsl_open hS
 have hlens:∀ x∈secs,x.length≤140737488351232:=by
  intro x hx
  obtain ⟨j,hj⟩:=List.getElem?_of_mem hx
  obtain ⟨b,o,-,hrow⟩:=hr2 (by intro h;rw [h] at hx;cases hx)
  obtain ⟨y,-,hy⟩:=hrow j x hj
  obtain ⟨_,_,_,h⟩:=wsl_open hy
  exact h
 have HR2:=k8 hr2
 have hb1:=(wu w.heap.size w).alloc (wo _) (.cells #[.slice a0 p.secrets.length c0,.slice b0 p.funcs.length d0] 25)
 have hb2:=(wu (w.alloc (.cells #[.slice a0 p.secrets.length c0,.slice b0 p.funcs.length d0] 25)).heap.size (w.alloc (.cells #[.slice a0 p.secrets.length c0,.slice b0 p.funcs.length d0] 25))).alloc (wo _) (.cells #[.int .i64 f,.slice a1 args.length c1,.slice a2 secs.length c2,.slice a3 shared.length c3] 31)
 have hz:(w.alloc (.cells #[.slice a0 p.secrets.length c0,.slice b0 p.funcs.length d0] 25)).heap.size=w.heap.size+1:=by simp
 have r1:=ji hb2 (Go.heap_alloc_new w (.cells #[.slice a0 p.secrets.length c0,.slice b0 p.funcs.length d0] 25))
 have r2:=Go.heap_alloc_new (w.alloc (.cells #[.slice a0 p.secrets.length c0,.slice b0 p.funcs.length d0] 25)) (.cells #[.int .i64 f,.slice a1 args.length c1,.slice a2 secs.length c2,.slice a3 shared.length c3] 31)
 rw [hz] at r2
 have hB0:Below w.heap.size w ((w.alloc (.cells #[.slice a0 p.secrets.length c0,.slice b0 p.funcs.length d0] 25)).alloc (.cells #[.int .i64 f,.slice a1 args.length c1,.slice a2 secs.length c2,.slice a3 shared.length c3] 31)):=hb1.trans (hb2.mono (by omega))
 have R1:=k8 r1
 have R2:=k8 r2
 have HB0:=k8 hB0
 have HSu:=k8 (sumL_le secs hlens)
 have HW:=k8 hw
 clear hA hS hr2 heA heS hb1 hb2 hz r1 r2 hB0 hlens hw
 go_enter Tryz.func11,Tryz.ntmps11
 go_wp2_with fail
 generalize ((w.alloc (.cells #[.slice a0 p.secrets.length c0,.slice b0 p.funcs.length d0] 25)).alloc (.cells #[.int .i64 f,.slice a1 args.length c1,.slice a2 secs.length c2,.slice a3 shared.length c3] 31))=w1 at *
 go_loopw [5,6] (fun nv iv wr=>∃ k:Nat,k≤secs.length∧k≤100∧nv=.int .i64 (sumL (secs.take k):Nat)∧iv=.int .i64 k∧Below w1.heap.size w1 wr) (fun nv iv _=>secs.length - (intOf iv).toNat)
 case atStart=>exact ⟨0,gj _,by omega,by simp [sumL],rfl,wu _ _⟩
 case round=>
  obtain ⟨k,hk,hk1,rfl,rfl,hBr⟩:=hrel
  have k1:=ji hBr R1.out
  have k2:=ji hBr R2.out
  have q2:=cell_of_row _ _ 2 _ _ _ k2
  simp only [List.getElem?_toArray,List.getElem?_cons_zero,List.getElem?_cons_succ] at q2
  have ql:=(wl.1 k2).1
  by_cases hlt:k<secs.length∧k<100
  ·have hlt1:=hlt.1
   have hlt2:=hlt.2
   obtain ⟨b2,o2,rfl,hro⟩:=HR2.out (by intro h;rw [h] at hlt1;simp at hlt1)
   obtain ⟨uk,hu,huw⟩:=hro k secs[k] (by simp [hlt1])
   rw [Nat.mul_one] at hu
   obtain ⟨ua,uc,rfl,hul⟩:=wsl_open huw
   have hu:=jb (HB0.out.trans (hBr.mono HB0.out.size)) hu
   have hub:=k9 wr _ hu
   have htk:=sumL_take secs k hlt1
   have hsb:=HSu.out k
   have hbd:(sumL (secs.take k):Int)+secs[k].length≤20000000000000000:=by omega
   have HB:=k8 hBr
   obtain ⟨A,hA⟩:∃ A:Nat,sumL (secs.take k)=A:=⟨_,rfl⟩
   have HSum:Hid (sumL (secs.take (k+1))=A+secs[k].length):=k8 (by omega)
   rw [hA] at hbd ⊢
   clear hro huw htk hsb hBr hA k1 k2 hlt
   generalize secs[k].length=L at *
   go_wp2_with fail
   go_roundw
   case rel=>exact ⟨k+1,hlt1,hlt2,by rw [HSum.out];simp only [Value.int.injEq,true_and];omega,by go_num,HB.out⟩
   case measure=>simp [intOf];omega
  ·have hst:sumL (secs.take k)=sumL (secs.take 100):=by
    by_cases h:k=100
    ·rw [h]
    ·rw [ww (by omega),ww (by omega)]
   obtain ⟨S,hS⟩:∃ S,sumL (secs.take 100)=S:=⟨_,rfl⟩
   rw [hst,hS]
   have HSm:Hid (smallB p args secs shared=(decide (kj p≤3000) && (decide (secs.length≤100) && (decide (S≤5000) && (decide (shared.length≤1000) && decide (args.length≤100)))))):=by show _=_;unfold smallB;rw [hS]
   have HBw:=k8 (HB0.out.trans (hBr.mono HB0.out.size))
   have H0:=k8 k1
   have K2:=k8 k2
   have HWe:=k8 (Weight_any p _ wr HW.out (HI.out.below HBw.out))
   rcases Nat.lt_or_ge k secs.length with h|h
   ·have hk2:¬ k<100:=fun h2=>hlt ⟨h,h2⟩
    clear hst hS hBr k1 k2 hlt
    go_wp2_with (refine wpList_load_row rfl 25 _ rfl w.heap.size rfl _ _ _ _ H0.out Tryz.underlying25 rfl (by kernel_rfl) ?_)
    clear q2 ql h hk2
    refine HWe.out.mono ?_
    rintro e w3 ⟨rfl,hb3⟩
    have HB3:=k8 (HBw.out.trans (hb3.mono HBw.out.size))
    have k3:=ji hb3 K2.out
    have q1:=cell_of_row _ _ 1 _ _ _ k3
    have q2:=cell_of_row _ _ 2 _ _ _ k3
    have q3:=cell_of_row _ _ 3 _ _ _ k3
    simp only [List.getElem?_toArray,List.getElem?_cons_zero,List.getElem?_cons_succ] at q1 q2 q3
    have ql:=(wl.1 k3).1
    clear hb3 k3
    by_cases h1:kj p≤3000
    ·have g1:(kj p:Int)≤3000:=by omega
     have dg1:decide ((kj p:Int)≤3000)=true:=decide_eq_true g1
     by_cases h2:secs.length≤100
     ·have g2:(secs.length:Int)≤100:=by omega
      have dg2:decide ((secs.length:Int)≤100)=true:=decide_eq_true g2
      by_cases h3:S≤5000
      ·have g3:(S:Int)≤5000:=by omega
       have dg3:decide ((S:Int)≤5000)=true:=decide_eq_true g3
       by_cases h4:shared.length≤1000
       ·have g4:(shared.length:Int)≤1000:=by omega
        have dg4:decide ((shared.length:Int)≤1000)=true:=decide_eq_true g4
        by_cases h5:args.length≤100
        ·have g5:(args.length:Int)≤100:=by omega
         have dg5:decide ((args.length:Int)≤100)=true:=decide_eq_true g5
         have HD:Hid (smallB p args secs shared=true):=by show _=_;rw [HSm.out];simp [h1,h2,h3,h4,h5]
         clear h1 h2 h3 h4 h5
         go_wp2_with fail
         go_ret
         exact ⟨by rw [HD.out];rfl,HB3.out⟩
        ·have HD:Hid (smallB p args secs shared=false):=by show _=_;rw [HSm.out];simp [h1,h2,h3,h4,h5]
         have g5:¬ (args.length:Int)≤100:=by omega
         have dg5:decide ((args.length:Int)≤100)=false:=decide_eq_false g5
         clear h1 h2 h3 h4 h5
         go_wp2_with fail
         go_ret
         exact ⟨by rw [HD.out];rfl,HB3.out⟩
       ·have HD:Hid (smallB p args secs shared=false):=by show _=_;rw [HSm.out];simp [h1,h2,h3,h4]
        have g4:¬ (shared.length:Int)≤1000:=by omega
        have dg4:decide ((shared.length:Int)≤1000)=false:=decide_eq_false g4
        clear h1 h2 h3 h4
        go_wp2_with fail
        go_ret
        exact ⟨by rw [HD.out];rfl,HB3.out⟩
      ·have HD:Hid (smallB p args secs shared=false):=by show _=_;rw [HSm.out];simp [h1,h2,h3]
       have g3:¬ (S:Int)≤5000:=by omega
       have dg3:decide ((S:Int)≤5000)=false:=decide_eq_false g3
       clear h1 h2 h3
       go_wp2_with fail
       go_ret
       exact ⟨by rw [HD.out];rfl,HB3.out⟩
     ·have HD:Hid (smallB p args secs shared=false):=by show _=_;rw [HSm.out];simp [h1,h2]
      have g2:¬ (secs.length:Int)≤100:=by omega
      have dg2:decide ((secs.length:Int)≤100)=false:=decide_eq_false g2
      clear h1 h2
      go_wp2_with fail
      go_ret
      exact ⟨by rw [HD.out];rfl,HB3.out⟩
    ·have HD:Hid (smallB p args secs shared=false):=by show _=_;rw [HSm.out];simp [h1]
     have g1:¬ (kj p:Int)≤3000:=by omega
     have dg1:decide ((kj p:Int)≤3000)=false:=decide_eq_false g1
     clear h1
     go_wp2_with fail
     go_ret
     exact ⟨by rw [HD.out];rfl,HB3.out⟩
   ·have hk2:¬ k<secs.length:=by omega
    clear hst hS hBr k1 k2 hlt
    go_wp2_with (refine wpList_load_row rfl 25 _ rfl w.heap.size rfl _ _ _ _ H0.out Tryz.underlying25 rfl (by kernel_rfl) ?_)
    clear q2 ql h hk2
    refine HWe.out.mono ?_
    rintro e w3 ⟨rfl,hb3⟩
    have HB3:=k8 (HBw.out.trans (hb3.mono HBw.out.size))
    have k3:=ji hb3 K2.out
    have q1:=cell_of_row _ _ 1 _ _ _ k3
    have q2:=cell_of_row _ _ 2 _ _ _ k3
    have q3:=cell_of_row _ _ 3 _ _ _ k3
    simp only [List.getElem?_toArray,List.getElem?_cons_zero,List.getElem?_cons_succ] at q1 q2 q3
    have ql:=(wl.1 k3).1
    clear hb3 k3
    by_cases h1:kj p≤3000
    ·have g1:(kj p:Int)≤3000:=by omega
     have dg1:decide ((kj p:Int)≤3000)=true:=decide_eq_true g1
     by_cases h2:secs.length≤100
     ·have g2:(secs.length:Int)≤100:=by omega
      have dg2:decide ((secs.length:Int)≤100)=true:=decide_eq_true g2
      by_cases h3:S≤5000
      ·have g3:(S:Int)≤5000:=by omega
       have dg3:decide ((S:Int)≤5000)=true:=decide_eq_true g3
       by_cases h4:shared.length≤1000
       ·have g4:(shared.length:Int)≤1000:=by omega
        have dg4:decide ((shared.length:Int)≤1000)=true:=decide_eq_true g4
        by_cases h5:args.length≤100
        ·have g5:(args.length:Int)≤100:=by omega
         have dg5:decide ((args.length:Int)≤100)=true:=decide_eq_true g5
         have HD:Hid (smallB p args secs shared=true):=by show _=_;rw [HSm.out];simp [h1,h2,h3,h4,h5]
         clear h1 h2 h3 h4 h5
         go_wp2_with fail
         go_ret
         exact ⟨by rw [HD.out];rfl,HB3.out⟩
        ·have HD:Hid (smallB p args secs shared=false):=by show _=_;rw [HSm.out];simp [h1,h2,h3,h4,h5]
         have g5:¬ (args.length:Int)≤100:=by omega
         have dg5:decide ((args.length:Int)≤100)=false:=decide_eq_false g5
         clear h1 h2 h3 h4 h5
         go_wp2_with fail
         go_ret
         exact ⟨by rw [HD.out];rfl,HB3.out⟩
       ·have HD:Hid (smallB p args secs shared=false):=by show _=_;rw [HSm.out];simp [h1,h2,h3,h4]
        have g4:¬ (shared.length:Int)≤1000:=by omega
        have dg4:decide ((shared.length:Int)≤1000)=false:=decide_eq_false g4
        clear h1 h2 h3 h4
        go_wp2_with fail
        go_ret
        exact ⟨by rw [HD.out];rfl,HB3.out⟩
      ·have HD:Hid (smallB p args secs shared=false):=by show _=_;rw [HSm.out];simp [h1,h2,h3]
       have g3:¬ (S:Int)≤5000:=by omega
       have dg3:decide ((S:Int)≤5000)=false:=decide_eq_false g3
       clear h1 h2 h3
       go_wp2_with fail
       go_ret
       exact ⟨by rw [HD.out];rfl,HB3.out⟩
     ·have HD:Hid (smallB p args secs shared=false):=by show _=_;rw [HSm.out];simp [h1,h2]
      have g2:¬ (secs.length:Int)≤100:=by omega
      have dg2:decide ((secs.length:Int)≤100)=false:=decide_eq_false g2
      clear h1 h2
      go_wp2_with fail
      go_ret
      exact ⟨by rw [HD.out];rfl,HB3.out⟩
    ·have HD:Hid (smallB p args secs shared=false):=by show _=_;rw [HSm.out];simp [h1]
     have g1:¬ (kj p:Int)≤3000:=by omega
     have dg1:decide ((kj p:Int)≤3000)=false:=decide_eq_false g1
     clear h1
     go_wp2_with fail
     go_ret
     exact ⟨by rw [HD.out];rfl,HB3.out⟩
end
section
open Go.RowKit Go.Shelf Go.Lib Go.ChangeShapes Go.WideShapes
section
variable {H:Type} {enc:TypeId×Value→H} {W:World}
abbrev Rd (enc:TypeId×Value→H) (W:World) (n:Nat) (t:TypeId) (cs:List Value) (x:DataW H×List MemPlace):Prop:=DataW.trod enc Tryz.prog W 0 (fun _=>true) true n t cs=some x
abbrev Sz (t:TypeId) (d:DataW H):Prop:=∀ m∈d.weights Tryz.prog t,m≤reachBytes
theorem addr_add (b o j:Nat):(⟨b,o,none⟩:Addr).add j=⟨b,o+j,none⟩:=by unfold Addr.add;split<;>simp_all
theorem weightsAll_mem {e:TypeId} {d:DataW H} {n:Nat} (hn:n∈d.weights Tryz.prog e):∀ (l:List (DataW H)),d∈l→n∈DataW.weightsAll Tryz.prog e l
 | [],h=>by cases h
 | y::l,h=>by
  rw [DataW.weightsAll]
  rcases gh.1 h with rfl|h
  ·exact gi.2 (.inl hn)
  ·exact gi.2 (.inr (weightsAll_mem hn l h))
theorem bulkAll_take (l:List (DataW H)) (k:Nat) (h:k<l.length):Rows.uptoBulkAll (l.take (k+1))=Rows.uptoBulkAll (l.take k)+Rows.uptoBulk l[k]:=by
 induction l generalizing k with
 | nil=>simp at h
 | cons e es ih=>
  cases k with
  | zero=>simp [Rows.uptoBulkAll]
  | succ k=>
   have:=ih k (by simpa using h)
   simp only [List.take_succ_cons,Rows.uptoBulkAll,List.getElem_cons_succ]
   omega
theorem xm {α:Type} {sz:Nat} {t e:TypeId} {Is:α→Value→Prop} {At:Nat→Nat→α→Prop} {wt:α→Nat} (ht:Tryz.prog.underlying t=some (.slice e)) (hsz:Tryz.prog.cellsOf e=sz) (hpos:1≤sz) (hbe:1≤Tryz.prog.bytesOf e)
  (hAt:∀ x cs b o,Is x (.agg cs)→cs.size=sz∧((∀ (k:Nat) v,cs[k]?=some v→W.cell? ⟨b,o+k,none⟩=some v)→At b o x)) {n:Nat} {cs:List Value} {x:DataW H×List MemPlace}
  (hel:∀ m,m<n→∀ cs y,Rd enc W m e cs y→Sz e y.1→∃ z,Is z (.agg cs.toArray)∧wt z≤Rows.uptoBulk y.1) (h:Rd enc W n t cs x) (hz:Sz t x.1) :
  ∃ v l,cs=[v]∧Sl sz At v l∧(l.map wt).sum≤Rows.uptoBulk x.1:=by
 rcases DataW.trod_slice ht h with ⟨rfl,_⟩|⟨a,len,cap,elems,rest,m,rfl,rfl,rfl,_,hlc,_,hlen,hels,_,_⟩
 ·exact ⟨_,[],rfl,Sl.nil _ _ _ _,by simp⟩
 ·have hsl:len≤140737488351232:=by
   have hb:(elems.length+rest.length) * Tryz.prog.bytesOf e≤reachBytes:=by
    refine hz _ ?_
    simp only [DataW.weights,ht]
    refine gh.2 (.inl ?_)
    rw [List.length_map,List.length_map]
   have hr:reachBytes=140737488351232:=by decide
   have:elems.length+rest.length≤(elems.length+rest.length) * Tryz.prog.bytesOf e:=Nat.le_mul_of_pos_right _ hbe
   omega
  have hcell:∀ i (hi:i<len),∃ cs',W.cells? 0 (a.add (i * sz)) sz=some cs'∧Rd enc W m e cs' (elems[i]'(by omega)):=by
   intro i hi
   have:=hels i hi
   rw [hsz,List.getElem?_eq_getElem (by omega),Option.bind_eq_some_iff] at this
   exact this
  have haddr:0<len→∃ b o,a=⟨b,o,none⟩:=by
   intro h0
   obtain ⟨cs',hc,-⟩:=hcell 0 h0
   obtain ⟨-,hl,hg⟩:=World.cells?_some hc
   have:=hg 0 hpos
   rw [Nat.zero_mul] at this
   have hs:cs'[0]?=some (cs'[0]'(by omega)):=List.getElem?_eq_getElem (by omega)
   rw [hs] at this
   have h2:W.cell? ((a.add 0).add 0)=some (cs'[0]'(by omega)):=this
   obtain ⟨b,o,e⟩:=add_zero' (a.add 0) h2
   obtain ⟨ab,ao,asp⟩:=a
   cases asp with
   | none=>exact ⟨ab,ao,rfl⟩
   | some s=>
    exfalso
    have:∃ s',((⟨ab,ao,some s⟩:Addr).add 0).spot=some s':=by unfold Addr.add;split<;>simp_all
    obtain ⟨s',hs'⟩:=this
    rw [e] at hs'
    cases hs'
  have key:∀ k,k≤len→∃ l:List α,l.length=k∧(∀ b o,a=⟨b,o,none⟩→Row sz At b o l)∧(l.map wt).sum≤Rows.uptoBulkAll ((elems.map (·.1)).take k):=by
   intro k
   induction k with
   | zero=>intro _;exact ⟨[],rfl,fun b o _ j x hj=>by simp at hj,by simp⟩
   | succ k ih=>
    intro hk
    obtain ⟨l,hl,hrow,hsum⟩:=ih (by omega)
    obtain ⟨cs',hc,hrd⟩:=hcell k (by omega)
    obtain ⟨z,hzi,hzw⟩:=hel m (Nat.lt_succ_self _) cs' _ hrd (fun q hq=>hz q (by
     simp only [DataW.weights,ht]
     refine gh.2 (.inr (gi.2 (.inl (weightsAll_mem hq _ (List.mem_map.2 ⟨_,List.getElem_mem (by omega),rfl⟩)))))))
    refine ⟨l++[z],by simp [hl],fun b o hbo j x hj=>?_,?_⟩
    ·by_cases hjk:j<k
     ·rw [List.getElem?_append_left (by omega)] at hj
      exact hrow b o hbo j x hj
     ·have hjl:=(List.getElem?_eq_some_iff.1 hj).1
      have e1:j=k:=by simp at hjl;omega
      subst e1
      rw [List.getElem?_append_right (by omega),hl,Nat.sub_self] at hj
      simp only [List.getElem?_cons_zero,Option.some.injEq] at hj
      subst hj
      refine (hAt z cs'.toArray b (o+j * sz) hzi).2 (fun q v hq=>?_)
      obtain ⟨-,hll,hg⟩:=World.cells?_some hc
      have hq':cs'[q]?=some v:=by simpa using hq
      have hql:=(List.getElem?_eq_some_iff.1 hq').1
      have:=hg q (by omega)
      rw [hq',hbo] at this
      rwa [addr_add,addr_add] at this
    ·rw [List.map_append,List.sum_append,bulkAll_take _ k (by rw [List.length_map];omega)]
     simp only [List.map_cons,List.map_nil,List.sum_cons,List.sum_nil,List.getElem_map]
     omega
  obtain ⟨l,hl,hrow,hsum⟩:=key len (wo _)
  refine ⟨_,l,rfl,⟨some a,cap,by rw [hl],by omega,by omega,fun hne=>?_⟩,?_⟩
  ·have h0:0<len:=by
    rw [← hl]
    cases l with
    | nil=>exact absurd rfl hne
    | cons y l=>simp
   obtain ⟨b,o,rfl⟩:=haddr h0
   exact ⟨b,o,rfl,hrow b o rfl⟩
  ·rw [ww (by rw [List.length_map];omega)] at hsum
   simp only [Rows.uptoBulk]
   omega
theorem wtEs_sum:∀ l:List Expr,wtEs l=(l.map Expr.wt).sum
 | []=>rfl
 | e::l=>by rw [wtEs,wtEs_sum l];rfl
theorem wtSs_sum:∀ l:List Stmt,wtSs l=(l.map Stmt.wt).sum
 | []=>rfl
 | e::l=>by rw [wtSs,wtSs_sum l];rfl
theorem str_size {s:ByteArray} (h:Sz (H:=H) 9 (.lit (.string s.data.toList))):s.size≤140737488351232:=by
 have:=h s.size (by simp only [DataW.weights,wy];rfl)
 have hr:reachBytes=140737488351232:=by decide
 omega
theorem expr_read:∀ (n:Nat) (cs:List Value) (y:DataW H×List MemPlace),Rd enc W n 53 cs y→Sz 53 y.1→∃ e,zl W e (.agg cs.toArray)∧e.wt≤Rows.uptoBulk y.1:=by
 intro n
 induction n using Nat.strongRecOn with
 | _ n ih=>
  intro cs y h hz
  obtain ⟨xs,m,rfl,rfl,hl,hxl,hf⟩:=DataW.trod_struct Tryz.underlying53 h
  have c4:Tryz.prog.cellsOf 53=4:=by kernel_rfl
  rw [c4] at hl
  match xs,hxl with
  | [x0,x1,x2,x3],_=>
  match cs,hl with
  | [v0,v1,v2,v3],_=>
  have f0:=hf 0 _ rfl
  have f1:=hf 1 _ rfl
  have f2:=hf 2 _ rfl
  have f3:=hf 3 _ rfl
  change DataW.trod _ _ _ _ _ _ _ 3 [v0]=some x0 at f0
  change DataW.trod _ _ _ _ _ _ _ 35 [v1]=some x1 at f1
  change DataW.trod _ _ _ _ _ _ _ 9 [v2]=some x2 at f2
  change DataW.trod _ _ _ _ _ _ _ 51 [v3]=some x3 at f3
  obtain ⟨k,e0,rfl,w0⟩:=DataW.trod_int Tryz.underlying3 f0
  obtain ⟨nn,e1,rfl,w1⟩:=DataW.trod_int Tryz.underlying35 f1
  obtain ⟨s,e2,rfl,-⟩:=DataW.trod_string Tryz.underlying9 f2
  simp only [List.cons.injEq,and_true] at e0 e1 e2
  subst e0 e1 e2
  have hw:∀ q,q∈(DataW.lit (H:=H) (.string s.data.toList)).weights Tryz.prog 9∨q∈x3.1.weights Tryz.prog 51→q≤reachBytes:=fun q hq=>hz q (by
   simp only [DataW.weights,Tryz.underlying53,List.map_cons,List.map_nil,DataW.weightsEach,gi] at hq ⊢
   rcases hq with hq|hq
   ·exact .inr (.inr (.inl hq))
   ·exact .inr (.inr (.inr (.inl hq))))
  obtain ⟨v,l,he,hsl,hsum⟩:=xm (Is:=zl W) (At:=zo W) (wt:=Expr.wt) Tryz.underlying51 (by kernel_rfl) (by decide) (by rw [show Tryz.prog.bytesOf 53=56 by kernel_rfl];decide) (fun x cs b o hx=>exprAt_of W x cs b o hx) (fun m' hm'=>ih m' (by omega)) f3 (fun q hq=>hw q (.inr hq))
  simp only [List.cons.injEq,and_true] at he
  subst he
  obtain ⟨a,c,rfl⟩:=yb hsl
  refine ⟨⟨k,nn,s,l⟩,expr_mk k nn s hsl (wf_i64 w0) (wf_u64 w1) (str_size (fun q hq=>hw q (.inl hq))),?_⟩
  rw [Expr.wt,wtEs_sum]
  simp only [Rows.uptoBulk,Rows.uptoBulkAll,List.map_cons,List.map_nil]
  have:s.data.toList.length=s.size:=rfl
  omega
theorem stmt_read:∀ (n:Nat) (cs:List Value) (y:DataW H×List MemPlace),Rd enc W n 58 cs y→Sz 58 y.1→∃ e,yn W e (.agg cs.toArray)∧e.wt≤Rows.uptoBulk y.1:=by
 intro n
 induction n using Nat.strongRecOn with
 | _ n ih=>
  intro cs y h hz
  obtain ⟨xs,m,rfl,rfl,hl,hxl,hf⟩:=DataW.trod_struct Tryz.underlying58 h
  have c4:Tryz.prog.cellsOf 58=6:=by kernel_rfl
  rw [c4] at hl
  match xs,hxl with
  | [x0,x1,x2,x3,x4,x5],_=>
  match cs,hl with
  | [v0,v1,v2,v3,v4,v5],_=>
  have f0:=hf 0 _ rfl
  change DataW.trod _ _ _ _ _ _ _ 3 [v0]=some x0 at f0
  have f1:=hf 1 _ rfl
  change DataW.trod _ _ _ _ _ _ _ 9 [v1]=some x1 at f1
  have f2:=hf 2 _ rfl
  change DataW.trod _ _ _ _ _ _ _ 3 [v2]=some x2 at f2
  have f3:=hf 3 _ rfl
  change DataW.trod _ _ _ _ _ _ _ 51 [v3]=some x3 at f3
  have f4:=hf 4 _ rfl
  change DataW.trod _ _ _ _ _ _ _ 45 [v4]=some x4 at f4
  have f5:=hf 5 _ rfl
  change DataW.trod _ _ _ _ _ _ _ 45 [v5]=some x5 at f5
  obtain ⟨k0,e0,rfl,w0⟩:=DataW.trod_int Tryz.underlying3 f0
  obtain ⟨s1,e1,rfl,-⟩:=DataW.trod_string Tryz.underlying9 f1
  obtain ⟨k2,e2,rfl,w2⟩:=DataW.trod_int Tryz.underlying3 f2
  simp only [List.cons.injEq,and_true] at e0
  subst e0
  simp only [List.cons.injEq,and_true] at e1
  subst e1
  simp only [List.cons.injEq,and_true] at e2
  subst e2
  have z1:Sz 9 (DataW.lit (H:=H) (.string s1.data.toList)):=fun q hq=>hz q (by
   simp only [DataW.weights,Tryz.underlying58,List.map_cons,List.map_nil,DataW.weightsEach,gi] at hq ⊢
   exact .inr (.inl hq))
  have z3:Sz 51 x3.1:=fun q hq=>hz q (by
   simp only [DataW.weights,Tryz.underlying58,List.map_cons,List.map_nil,DataW.weightsEach,gi] at hq ⊢
   exact .inr (.inr (.inr (.inl hq))))
  have z4:Sz 45 x4.1:=fun q hq=>hz q (by
   simp only [DataW.weights,Tryz.underlying58,List.map_cons,List.map_nil,DataW.weightsEach,gi] at hq ⊢
   exact .inr (.inr (.inr (.inr (.inl hq)))))
  have z5:Sz 45 x5.1:=fun q hq=>hz q (by
   simp only [DataW.weights,Tryz.underlying58,List.map_cons,List.map_nil,DataW.weightsEach,gi] at hq ⊢
   exact .inr (.inr (.inr (.inr (.inr (.inl hq))))))
  obtain ⟨v,l3,he,hs3,hm3⟩:=xm (Is:=zl W) (At:=zo W) (wt:=Expr.wt) Tryz.underlying51 (by kernel_rfl) (by decide) (by rw [show Tryz.prog.bytesOf 53=56 by kernel_rfl];decide) (fun x cs b o hx=>exprAt_of W x cs b o hx) (fun m' hm'=>expr_read m') f3 z3
  simp only [List.cons.injEq,and_true] at he
  subst he
  obtain ⟨a3,c3,rfl⟩:=yb hs3
  obtain ⟨v,l4,he,hs4,hm4⟩:=xm (Is:=yn W) (At:=j9 W) (wt:=Stmt.wt) Tryz.underlying45 (by kernel_rfl) (by decide) (by rw [show Tryz.prog.bytesOf 58=104 by kernel_rfl];decide) (fun x cs b o hx=>stmtAt_of W x cs b o hx) (fun m' hm'=>ih m' (by omega)) f4 z4
  simp only [List.cons.injEq,and_true] at he
  subst he
  obtain ⟨a4,c4,rfl⟩:=yb hs4
  obtain ⟨v,l5,he,hs5,hm5⟩:=xm (Is:=yn W) (At:=j9 W) (wt:=Stmt.wt) Tryz.underlying45 (by kernel_rfl) (by decide) (by rw [show Tryz.prog.bytesOf 58=104 by kernel_rfl];decide) (fun x cs b o hx=>stmtAt_of W x cs b o hx) (fun m' hm'=>ih m' (by omega)) f5 z5
  simp only [List.cons.injEq,and_true] at he
  subst he
  obtain ⟨a5,c5,rfl⟩:=yb hs5
  refine ⟨⟨k0,s1,k2,l3,l4,l5⟩,stmt_mk k0 k2 s1 hs3 hs4 hs5 (wf_i64 w0) (wf_i64 w2) (str_size z1),?_⟩
  have q1:s1.data.toList.length=s1.size:=rfl
  rw [Stmt.wt,wtEs_sum,wtSs_sum,wtSs_sum]
  simp only [Rows.uptoBulk,Rows.uptoBulkAll,List.map_cons,List.map_nil]
  omega
theorem param_read:∀ (n:Nat) (cs:List Value) (y:DataW H×List MemPlace),Rd enc W n 56 cs y→Sz 56 y.1→∃ e,ParamIs W e (.agg cs.toArray)∧1+e.name.size≤Rows.uptoBulk y.1:=by
 intro n
 intro cs y h hz
 obtain ⟨xs,m,rfl,rfl,hl,hxl,hf⟩:=DataW.trod_struct Tryz.underlying56 h
 have c4:Tryz.prog.cellsOf 56=3:=by kernel_rfl
 rw [c4] at hl
 match xs,hxl with
 | [x0,x1,x2],_=>
 match cs,hl with
 | [v0,v1,v2],_=>
 have f0:=hf 0 _ rfl
 change DataW.trod _ _ _ _ _ _ _ 9 [v0]=some x0 at f0
 have f1:=hf 1 _ rfl
 change DataW.trod _ _ _ _ _ _ _ 3 [v1]=some x1 at f1
 have f2:=hf 2 _ rfl
 change DataW.trod _ _ _ _ _ _ _ 3 [v2]=some x2 at f2
 obtain ⟨s0,e0,rfl,-⟩:=DataW.trod_string Tryz.underlying9 f0
 obtain ⟨k1,e1,rfl,w1⟩:=DataW.trod_int Tryz.underlying3 f1
 obtain ⟨k2,e2,rfl,w2⟩:=DataW.trod_int Tryz.underlying3 f2
 simp only [List.cons.injEq,and_true] at e0
 subst e0
 simp only [List.cons.injEq,and_true] at e1
 subst e1
 simp only [List.cons.injEq,and_true] at e2
 subst e2
 have z0:Sz 9 (DataW.lit (H:=H) (.string s0.data.toList)):=fun q hq=>hz q (by
  simp only [DataW.weights,Tryz.underlying56,List.map_cons,List.map_nil,DataW.weightsEach,gi] at hq ⊢
  exact .inl hq)
 refine ⟨⟨s0,k1,k2⟩,⟨rfl,str_size z0,wf_i64 w1,wf_i64 w2⟩,?_⟩
 have q0:s0.data.toList.length=s0.size:=rfl
 simp only [Rows.uptoBulk,Rows.uptoBulkAll,List.map_cons,List.map_nil]
 omega
theorem arr_read:∀ (n:Nat) (cs:List Value) (y:DataW H×List MemPlace),Rd enc W n 62 cs y→Sz 62 y.1→∃ e,ArrIs W e (.agg cs.toArray)∧1+e.name.size≤Rows.uptoBulk y.1:=by
 intro n
 intro cs y h hz
 obtain ⟨xs,m,rfl,rfl,hl,hxl,hf⟩:=DataW.trod_struct Tryz.underlying62 h
 have c4:Tryz.prog.cellsOf 62=2:=by kernel_rfl
 rw [c4] at hl
 match xs,hxl with
 | [x0,x1],_=>
 match cs,hl with
 | [v0,v1],_=>
 have f0:=hf 0 _ rfl
 change DataW.trod _ _ _ _ _ _ _ 9 [v0]=some x0 at f0
 have f1:=hf 1 _ rfl
 change DataW.trod _ _ _ _ _ _ _ 3 [v1]=some x1 at f1
 obtain ⟨s0,e0,rfl,-⟩:=DataW.trod_string Tryz.underlying9 f0
 obtain ⟨k1,e1,rfl,w1⟩:=DataW.trod_int Tryz.underlying3 f1
 simp only [List.cons.injEq,and_true] at e0
 subst e0
 simp only [List.cons.injEq,and_true] at e1
 subst e1
 have z0:Sz 9 (DataW.lit (H:=H) (.string s0.data.toList)):=fun q hq=>hz q (by
  simp only [DataW.weights,Tryz.underlying62,List.map_cons,List.map_nil,DataW.weightsEach,gi] at hq ⊢
  exact .inl hq)
 refine ⟨⟨s0,k1⟩,⟨rfl,str_size z0,wf_i64 w1⟩,?_⟩
 have q0:s0.data.toList.length=s0.size:=rfl
 simp only [Rows.uptoBulk,Rows.uptoBulkAll,List.map_cons,List.map_nil]
 omega
theorem wtPs_sum:∀ l:List z8,wtPs l=(l.map (fun q=>1+q.name.size)).sum
 | []=>rfl
 | e::l=>by rw [wtPs,wtPs_sum l];rfl
theorem wtAs_sum:∀ l:List Arr,wtAs l=(l.map (fun q=>1+q.name.size)).sum
 | []=>rfl
 | e::l=>by rw [wtAs,wtAs_sum l];rfl
theorem wtGs_sum:∀ l:List Fun,wtGs l=(l.map (fun f=>1+f.name.size+wtSs f.body+wtPs f.params)).sum
 | []=>rfl
 | e::l=>by rw [wtGs,wtGs_sum l];rfl
theorem fun_read:∀ (n:Nat) (cs:List Value) (y:DataW H×List MemPlace),Rd enc W n 47 cs y→Sz 47 y.1→∃ f,FunIs W f (.agg cs.toArray)∧1+f.name.size+wtSs f.body+wtPs f.params≤Rows.uptoBulk y.1:=by
 intro n
 intro cs y h hz
 obtain ⟨xs,m,rfl,rfl,hl,hxl,hf⟩:=DataW.trod_struct Tryz.underlying47 h
 have c4:Tryz.prog.cellsOf 47=4:=by kernel_rfl
 rw [c4] at hl
 match xs,hxl with
 | [x0,x1,x2,x3],_=>
 match cs,hl with
 | [v0,v1,v2,v3],_=>
 have f0:=hf 0 _ rfl
 change DataW.trod _ _ _ _ _ _ _ 9 [v0]=some x0 at f0
 have f1:=hf 1 _ rfl
 change DataW.trod _ _ _ _ _ _ _ 4 [v1]=some x1 at f1
 have f2:=hf 2 _ rfl
 change DataW.trod _ _ _ _ _ _ _ 44 [v2]=some x2 at f2
 have f3:=hf 3 _ rfl
 change DataW.trod _ _ _ _ _ _ _ 45 [v3]=some x3 at f3
 obtain ⟨s0,e0,rfl,-⟩:=DataW.trod_string Tryz.underlying9 f0
 obtain ⟨k1,e1,rfl⟩:=DataW.trod_bool Tryz.underlying4 f1
 simp only [List.cons.injEq,and_true] at e0
 subst e0
 simp only [List.cons.injEq,and_true] at e1
 subst e1
 have z0:Sz 9 (DataW.lit (H:=H) (.string s0.data.toList)):=fun q hq=>hz q (by
  simp only [DataW.weights,Tryz.underlying47,List.map_cons,List.map_nil,DataW.weightsEach,gi] at hq ⊢
  exact .inl hq)
 have z2:Sz 44 x2.1:=fun q hq=>hz q (by
  simp only [DataW.weights,Tryz.underlying47,List.map_cons,List.map_nil,DataW.weightsEach,gi] at hq ⊢
  exact .inr (.inr (.inl hq)))
 have z3:Sz 45 x3.1:=fun q hq=>hz q (by
  simp only [DataW.weights,Tryz.underlying47,List.map_cons,List.map_nil,DataW.weightsEach,gi] at hq ⊢
  exact .inr (.inr (.inr (.inl hq))))
 obtain ⟨v,l2,he,hs2,hm2⟩:=xm (Is:=ParamIs W) (At:=yr W) (wt:=(fun q=>1+q.name.size)) Tryz.underlying44 (by kernel_rfl) (by decide) (by rw [show Tryz.prog.bytesOf 56=32 by kernel_rfl];decide) (fun x cs b o hx=>paramAt_of W x cs b o hx) (fun m' hm'=>param_read m') f2 z2
 simp only [List.cons.injEq,and_true] at he
 subst he
 obtain ⟨a2,c2,rfl⟩:=yb hs2
 obtain ⟨v,l3,he,hs3,hm3⟩:=xm (Is:=yn W) (At:=j9 W) (wt:=Stmt.wt) Tryz.underlying45 (by kernel_rfl) (by decide) (by rw [show Tryz.prog.bytesOf 58=104 by kernel_rfl];decide) (fun x cs b o hx=>stmtAt_of W x cs b o hx) (fun m' hm'=>stmt_read m') f3 z3
 simp only [List.cons.injEq,and_true] at he
 subst he
 obtain ⟨a3,c3,rfl⟩:=yb hs3
 refine ⟨⟨s0,k1,l2,l3⟩,fun_mk s0 k1 hs2 hs3 (str_size z0),?_⟩
 have q0:s0.data.toList.length=s0.size:=rfl
 simp only [wtSs_sum,wtPs_sum]
 simp only [Rows.uptoBulk,Rows.uptoBulkAll,List.map_cons,List.map_nil]
 omega
theorem src_read:∀ (n:Nat) (cs:List Value) (y:DataW H×List MemPlace),Rd enc W n 25 cs y→Sz 25 y.1→∃ p,kn W p (.agg cs.toArray)∧kj p≤Rows.uptoBulk y.1:=by
 intro n
 intro cs y h hz
 obtain ⟨xs,m,rfl,rfl,hl,hxl,hf⟩:=DataW.trod_struct Tryz.underlying25 h
 have c4:Tryz.prog.cellsOf 25=2:=by kernel_rfl
 rw [c4] at hl
 match xs,hxl with
 | [x0,x1],_=>
 match cs,hl with
 | [v0,v1],_=>
 have f0:=hf 0 _ rfl
 change DataW.trod _ _ _ _ _ _ _ 22 [v0]=some x0 at f0
 have f1:=hf 1 _ rfl
 change DataW.trod _ _ _ _ _ _ _ 23 [v1]=some x1 at f1
 have z0:Sz 22 x0.1:=fun q hq=>hz q (by
  simp only [DataW.weights,Tryz.underlying25,List.map_cons,List.map_nil,DataW.weightsEach,gi] at hq ⊢
  exact .inl hq)
 have z1:Sz 23 x1.1:=fun q hq=>hz q (by
  simp only [DataW.weights,Tryz.underlying25,List.map_cons,List.map_nil,DataW.weightsEach,gi] at hq ⊢
  exact .inr (.inl hq))
 obtain ⟨v,l0,he,hs0,hm0⟩:=xm (Is:=ArrIs W) (At:=ArrAt W) (wt:=(fun q=>1+q.name.size)) Tryz.underlying22 (by kernel_rfl) (by decide) (by rw [show Tryz.prog.bytesOf 62=24 by kernel_rfl];decide) (fun x cs b o hx=>arrAt_of W x cs b o hx) (fun m' hm'=>arr_read m') f0 z0
 simp only [List.cons.injEq,and_true] at he
 subst he
 obtain ⟨a0,c0,rfl⟩:=yb hs0
 obtain ⟨v,l1,he,hs1,hm1⟩:=xm (Is:=FunIs W) (At:=FunAt W) (wt:=(fun f=>1+f.name.size+wtSs f.body+wtPs f.params)) Tryz.underlying23 (by kernel_rfl) (by decide) (by rw [show Tryz.prog.bytesOf 47=72 by kernel_rfl];decide) (fun x cs b o hx=>funAt_of W x cs b o hx) (fun m' hm'=>fun_read m') f1 z1
 simp only [List.cons.injEq,and_true] at he
 subst he
 obtain ⟨a1,c1,rfl⟩:=yb hs1
 refine ⟨⟨l0,l1⟩,src_mk hs0 hs1,?_⟩
 unfold kj
 simp only [wtAs_sum,wtGs_sum]
 simp only [Rows.uptoBulk,Rows.uptoBulkAll,List.map_cons,List.map_nil]
 omega
theorem src_of {r:Reach} {b0:Nat} {v:Value} {d:DataW H} {ps:List MemPlace} (hval:Value.okWide Tryz.prog W r b0 25 v) (h:DataW.Trod enc Tryz.prog W 0 (fun _=>true) true 25 v d ps) (hz:Sz 25 d):∃ p,kn W p v∧kj p≤Rows.uptoBulk d:=by
 simp only [Value.okWide,Tryz.underlying25] at hval
 obtain ⟨cs,rfl,-⟩:=hval
 obtain ⟨fuel,hf⟩:=h
 have:=src_read fuel _ (d,ps) hf hz
 simpa [Value.cells] using this
end
end
section
open Go.RowKit Go.Shelf Go.Lib Go.ChangeShapes Go.WideShapes
section
variable {H:Type} {enc:TypeId×Value→H} {W:World}
theorem rows_read {n:Nat} {cs:List Value} {x:DataW H×List MemPlace} (h:Rd enc W n 27 cs x) (hz:Sz 27 x.1):∃ v l,cs=[v]∧Sl 1 (WAt W) v l∧(∀ y∈l,∀ z∈y,U64 z):=by
 obtain ⟨v,l,he,hs,-⟩:=xm (sz:=1) (Is:=fun (l:List Int) u=>∃ v,u=.agg #[v]∧WSl W v l∧∀ z∈l,U64 z) (At:=fun b o l=>WAt W b o l∧∀ z∈l,U64 z) (wt:=fun _=>0) Tryz.underlying27 (by kernel_rfl) (by decide) (by rw [show Tryz.prog.bytesOf 26=24 by kernel_rfl];decide)
  (fun x cs b o ⟨v,hv,hw,hu⟩=>by
   obtain rfl:=Value.agg.inj hv
   exact ⟨rfl,fun hc=>⟨⟨v,hc 0 v rfl,hw⟩,hu⟩⟩)
  (fun m _ cs y hr hq=>by
   obtain ⟨v,l,rfl,hw,hu⟩:=words_trod hr hq
   exact ⟨l,⟨v,rfl,hw,hu⟩,gj _⟩) h hz
 refine ⟨v,l,he,hs.imp (fun b o x _ hx=>hx.1),fun y hy z hz=>?_⟩
 obtain ⟨a,c,rfl,_,_,hr⟩:=hs
 obtain ⟨b,o,-,hrow⟩:=hr (by intro e;rw [e] at hy;cases hy)
 obtain ⟨j,hj⟩:=List.getElem?_of_mem hy
 exact (hrow j y hj).2 z hz
theorem world_read {n:Nat} {u0 u1:Value} {x:DataW H×List MemPlace} (h:Rd enc W n 29 [u0,u1] x) (hz:Sz 29 x.1):∃ secs shared,Sl 1 (WAt W) u0 secs∧(∀ y∈secs,∀ z∈y,U64 z)∧WSl W u1 shared∧(∀ z∈shared,U64 z):=by
 obtain ⟨xs,m,rfl,rfl,hl,hxl,hf⟩:=DataW.trod_struct Tryz.underlying29 h
 match xs,hxl with
 | [x0,x1],_=>
 have f0:=hf 0 _ rfl
 have f1:=hf 1 _ rfl
 change DataW.trod _ _ _ _ _ _ _ 27 [u0]=some x0 at f0
 change DataW.trod _ _ _ _ _ _ _ 26 [u1]=some x1 at f1
 have z0:Sz 27 x0.1:=fun q hq=>hz q (by
  simp only [DataW.weights,Tryz.underlying29,List.map_cons,List.map_nil,DataW.weightsEach,gi] at hq ⊢
  exact .inl hq)
 have z1:Sz 26 x1.1:=fun q hq=>hz q (by
  simp only [DataW.weights,Tryz.underlying29,List.map_cons,List.map_nil,DataW.weightsEach,gi] at hq ⊢
  exact .inr (.inl hq))
 obtain ⟨v,l,he,h1,h2⟩:=rows_read f0 z0
 obtain ⟨v',l',he',h1',h2'⟩:=words_trod f1 z1
 simp only [List.cons.injEq,and_true] at he he'
 subst he he'
 exact ⟨l,l',h1,h2,h1',h2'⟩
theorem call_of {r:Reach} {b0:Nat} {v:Value} {d:DataW H} {ps:List MemPlace} (hval:Value.okWide Tryz.prog W r b0 31 v) (h:DataW.Trod enc Tryz.prog W 0 (fun _=>true) true 31 v d ps) (hz:Sz 31 d) :
  ∃ f args secs shared,CallIs W f args secs shared v∧(∀ z∈args,U64 z)∧(∀ y∈secs,∀ z∈y,U64 z)∧(∀ z∈shared,U64 z):=by
 simp only [Value.okWide,Tryz.underlying31] at hval
 obtain ⟨cs,rfl,hsz,-⟩:=hval
 obtain ⟨fuel,hf⟩:=h
 obtain ⟨cs⟩:=cs
 have hc4:Tryz.prog.cellsOf 31=4:=by kernel_rfl
 rw [hc4] at hsz
 match cs,hsz with
 | [v0,v1,v2,v3],_=>
 obtain ⟨xs,m,-,hx,hl,hxl,hg⟩:=DataW.trod_struct Tryz.underlying31 hf
 match xs,hxl with
 | [x0,x1,x2],_=>
 simp only [Prod.mk.injEq] at hx
 obtain ⟨rfl,-⟩:=hx
 have f0:=hg 0 _ rfl
 have f1:=hg 1 _ rfl
 have f2:=hg 2 _ rfl
 change DataW.trod _ _ _ _ _ _ _ 3 [v0]=some x0 at f0
 change DataW.trod _ _ _ _ _ _ _ 26 [v1]=some x1 at f1
 change DataW.trod _ _ _ _ _ _ _ 29 [v2,v3]=some x2 at f2
 have z1:Sz 26 x1.1:=fun q hq=>hz q (by
  simp only [DataW.weights,Tryz.underlying31,List.map_cons,List.map_nil,DataW.weightsEach,gi] at hq ⊢
  exact .inr (.inl hq))
 have z2:Sz 29 x2.1:=fun q hq=>hz q (by
  simp only [DataW.weights,Tryz.underlying31,List.map_cons,List.map_nil,DataW.weightsEach,gi] at hq ⊢
  exact .inr (.inr (.inl hq)))
 obtain ⟨f,e0,-,-⟩:=DataW.trod_int Tryz.underlying3 f0
 obtain ⟨v,args,e1,hA,hAu⟩:=words_trod f1 z1
 obtain ⟨secs,shared,hS,hSu,hM,hMu⟩:=world_read f2 z2
 simp only [List.cons.injEq,and_true] at e0 e1
 subst e0 e1
 obtain ⟨a1,c1,rfl,-⟩:=wsl_open hA
 obtain ⟨a2,c2,rfl⟩:=yb hS
 obtain ⟨a3,c3,rfl,-⟩:=wsl_open hM
 exact ⟨f,args,secs,shared,⟨a1,c1,a2,c2,a3,c3,rfl,hA,hS,hM⟩,hAu,hSu,hMu⟩
end
end
section
def FewOpens (call:Nat→Vars→Refs→St→Int×St) (T:List Int):Prop:=∀ (j:Nat) (vs:Vars) (rs:Refs) (st:St),T.getD j 0≤4000→((call j vs rs st).2.opened.length:Int)≤st.opened.length+T.getD j 0
mutual
theorem evE_opens {alu:Int→Int→Int→Int} {call:Nat→Vars→Refs→St→Int×St} {p:Src} {i:Nat} {secs:Refs} {T:List Int} (hT:CostsOk T) (hC:FewOpens call T) (vars:Vars) (ptrs:Refs):∀ (e:Expr) (st:St),costE p i T e≤4000→((evE alu call p i secs vars ptrs e st).2.opened.length:Int)≤st.opened.length+costE p i T e
 | ⟨k,n,s,xs⟩,st,h=>by
  have hr:=qd (p:=p) (i:=i) hT xs
  have IH:=fun st h=>evEs_opens (alu:=alu) (secs:=secs) (p:=p) (i:=i) hT hC vars ptrs xs st h
  have IA:=fun qs x h=>evArgs_opens (alu:=alu) (secs:=secs) (p:=p) (i:=i) hT hC vars ptrs xs qs x h
  rw [costE_eq] at h ⊢
  rw [evE]
  by_cases h5:k=5
  ·subst h5
   rw [if_pos rfl] at h ⊢
   rw [if_neg (by decide),if_neg (by decide),if_pos rfl]
   cases hc:yf p i s with
   | none=>rw [hc] at h;simp only at h ⊢;omega
   | some j=>
    rw [hc] at h
    simp only at h ⊢
    have hj:=hT j
    cases hg:p.funcs[j]? with
    | none=>simp only;omega
    | some g=>
     simp only
     have h1:=IA g.params ([],[],st) (by omega)
     have h2:=hC j (evArgs alu call p i secs vars ptrs xs g.params ([],[],st)).1 (evArgs alu call p i secs vars ptrs xs g.params ([],[],st)).2.1 (evArgs alu call p i secs vars ptrs xs g.params ([],[],st)).2.2 (by omega)
     simp only at h1
     omega
  ·rw [if_neg h5] at h ⊢
   have h1:=IH st (by omega)
   by_cases h0:k=0
   ·rw [if_pos h0];simp only;omega
   by_cases h01:k=1
   ·rw [if_neg h0,if_pos h01];simp only;omega
   rw [if_neg h0,if_neg h01,if_neg h5]
   simp only
   by_cases h2:k=2
   ·rw [if_pos h2];simp only;omega
   by_cases h3:k=3
   ·rw [if_neg h2,if_pos h3];simp only;omega
   by_cases h4:k=4
   ·rw [if_neg h2,if_neg h3,if_pos h4];simp only;omega
   rw [if_neg h2,if_neg h3,if_neg h4]
   simp only [List.length_append,List.length_cons,List.length_nil]
   omega
theorem evEs_opens {alu:Int→Int→Int→Int} {call:Nat→Vars→Refs→St→Int×St} {p:Src} {i:Nat} {secs:Refs} {T:List Int} (hT:CostsOk T) (hC:FewOpens call T) (vars:Vars) (ptrs:Refs):∀ (l:List Expr) (st:St),qh p i T l≤4000→((evEs alu call p i secs vars ptrs l st).2.opened.length:Int)≤st.opened.length+qh p i T l
 | [],st,h=>by rw [evEs,qh];simp
 | e::es,st,h=>by
  have hr:=qd (p:=p) (i:=i) hT es
  have hr2:=xg (p:=p) (i:=i) hT e.wt e (wo _)
  have I1:=evE_opens (alu:=alu) (secs:=secs) (p:=p) (i:=i) hT hC vars ptrs e st
  have I2:=fun st=>evEs_opens (alu:=alu) (secs:=secs) (p:=p) (i:=i) hT hC vars ptrs es st
  rw [qh] at h ⊢
  rw [evEs]
  simp only
  have h1:=I1 (by omega)
  have h2:=I2 (evE alu call p i secs vars ptrs e st).2 (by omega)
  omega
theorem evArgs_opens {alu:Int→Int→Int→Int} {call:Nat→Vars→Refs→St→Int×St} {p:Src} {i:Nat} {secs:Refs} {T:List Int} (hT:CostsOk T) (hC:FewOpens call T) (vars:Vars) (ptrs:Refs):∀ (l:List Expr) (qs:List z8) (x:Vars×Refs×St),qh p i T l≤4000→((evArgs alu call p i secs vars ptrs l qs x).2.2.opened.length:Int)≤x.2.2.opened.length+qh p i T l
 | [],qs,x,h=>by rw [evArgs,qh];omega
 | e::es,[],x,h=>by
  have hr:=qd (p:=p) (i:=i) hT (e::es)
  rw [evArgs]
  omega
 | e::es,q::qs,x,h=>by
  have hr:=qd (p:=p) (i:=i) hT es
  have hr2:=xg (p:=p) (i:=i) hT e.wt e (wo _)
  have I1:=evE_opens (alu:=alu) (secs:=secs) (p:=p) (i:=i) hT hC vars ptrs e x.2.2
  have I2:=fun x=>evArgs_opens (alu:=alu) (secs:=secs) (p:=p) (i:=i) hT hC vars ptrs es qs x
  rw [qh] at h ⊢
  rw [evArgs]
  split
  ·refine Int.le_trans (I2 _ (by omega)) ?_
   simp only
   omega
  ·simp only
   have h1:=I1 (by omega)
   have h2:=I2 (aput x.1 q.name (evE alu call p i secs vars ptrs e x.2.2).1,x.2.1,(evE alu call p i secs vars ptrs e x.2.2).2) (by omega)
   simp only at h2
   omega
end
theorem args_opens {alu:Int→Int→Int→Int} {call:Nat→Vars→Refs→St→Int×St} {p:Src} {i:Nat} {secs:Refs} {T:List Int} (hT:CostsOk T) (hC:FewOpens call T) (vars:Vars) (ptrs:Refs) (xs:List Expr) (st:St) (h:qh p i T xs≤4000) :
  ((evE alu call p i secs vars ptrs (arg0 xs) st).2.opened.length:Int)≤st.opened.length+qh p i T xs∧((evE alu call p i secs vars ptrs (arg1 xs) (evE alu call p i secs vars ptrs (arg0 xs) st).2).2.opened.length:Int)≤st.opened.length+qh p i T xs:=by
 have hd:∀ st,evE alu call p i secs vars ptrs ⟨0,0,⟨#[]⟩,[]⟩ st=(0,st):=fun st=>by rw [evE,if_pos rfl]
 cases xs with
 | nil=>
  have e0:arg0 []=⟨0,0,⟨#[]⟩,[]⟩:=rfl
  have e1:arg1 []=⟨0,0,⟨#[]⟩,[]⟩:=rfl
  rw [e0,e1,hd,hd,qh]
  simp
 | cons a l=>
  have e0:arg0 (a::l)=a:=rfl
  rw [qh] at h ⊢
  have hr:=qd (p:=p) (i:=i) hT l
  have hr2:=xg (p:=p) (i:=i) hT a.wt a (wo _)
  have h1:=evE_opens (alu:=alu) (secs:=secs) (p:=p) (i:=i) hT hC vars ptrs a st (by omega)
  rw [e0]
  refine ⟨by omega,?_⟩
  cases l with
  | nil=>
   have e1:arg1 [a]=⟨0,0,⟨#[]⟩,[]⟩:=rfl
   rw [e1,hd]
   simp only
   omega
  | cons b l=>
   have e1:arg1 (a::b::l)=b:=rfl
   rw [e1]
   rw [qh] at h hr ⊢
   have hr3:=qd (p:=p) (i:=i) hT l
   have hr4:=xg (p:=p) (i:=i) hT b.wt b (wo _)
   have h2:=evE_opens (alu:=alu) (secs:=secs) (p:=p) (i:=i) hT hC vars ptrs b (evE alu call p i secs vars ptrs a st).2 (by omega)
   omega
theorem forN_opens {f:Nat→Vars×St→Vars×St} {c:Int} (hf:∀ m y,((f m y).2.opened.length:Int)≤y.2.opened.length+c) (y:Vars×St):∀ (n:Nat),((forN f n y).2.opened.length:Int)≤y.2.opened.length+n * c
 | 0=>by simp [forN]
 | n+1=>by
  have h1:=forN_opens hf y n
  have h2:=hf n (forN f n y)
  have e:((n+1:Nat):Int) * c=n * c+c:=by rw [Int.natCast_add,Int.add_mul];simp
  rw [forN,e]
  omega
theorem exSs_opens {alu:Int→Int→Int→Int} {call:Nat→Vars→Refs→St→Int×St} {p:Src} {i:Nat} {secs:Refs} {T:List Int} (hT:CostsOk T) (hC:FewOpens call T) (ptrs:Refs):∀ (N:Nat) (l:List Stmt) (x:Vars×Int×St) (n:Int),wtSs l≤N→(∀ ev∈evSs l,kh p i ev)→0≤n→zz p i T n l≤4000 →
  n≤zz p i T n l∧((exSs alu call p i secs ptrs l x).2.2.opened.length:Int)≤x.2.2.opened.length+(zz p i T n l - n):=by
 intro N
 induction N with
 | zero=>
  intro l x n h _ h0 h1
  cases l with
  | nil=>rw [zz,exSs];exact ⟨Int.le_refl _,by omega⟩
  | cons y l=>obtain ⟨k,s,n,xs,t,e⟩:=y;simp only [wtSs,Stmt.wt] at h;omega
 | succ N ih=>
  intro l
  induction l with
  | nil=>intro x n _ _ h0 h1;rw [zz,exSs];exact ⟨Int.le_refl _,by omega⟩
  | cons y l ihl=>
   intro x n h hev h0 h1
   have hevx:∀ ev∈evS y,kh p i ev:=fun ev he=>hev ev (by rw [evSs];simp [he])
   have hevl:∀ ev∈evSs l,kh p i ev:=fun ev he=>hev ev (by rw [evSs];simp [he])
   obtain ⟨k,s,num,xs,th,el⟩:=y
   rw [wtSs,Stmt.wt] at h
   rw [zz] at h1 ⊢
   have ha:=(hevx (.inl ⟨k,s,num,xs,th,el⟩) (by rw [yz];simp)).1
   rw [yz] at hevx
   simp only [gh,gi,List.mem_map] at hevx
   have hevt:∀ ev∈evSs th,kh p i ev:=fun ev he=>hevx ev (.inr (.inl (.inr he)))
   have heve:∀ ev∈evSs el,kh p i ev:=fun ev he=>hevx ev (.inr (.inr he))
   have h2:=ki (p:=p) (i:=i) hT N th 0 (by omega) hevt (by omega) (by omega)
   have h3:=ki (p:=p) (i:=i) hT N el 0 (by omega) heve (by omega) (by omega)
   have h4:=qd (p:=p) (i:=i) hT xs
   have hm:0≤costS p i T n ⟨k,s,num,xs,th,el⟩:=by
    rw [costS_eq]
    split
    ·rename_i hk
     have:=ha.2.2.2.2.1 hk
     simp only at this
     have h5:0≤num * (1+zz p i T 0 th):=Int.mul_nonneg (by omega) (by omega)
     omega
    ·omega
   have hl:=ihl (exS alu call p i secs ptrs ⟨k,s,num,xs,th,el⟩ x) _ (by omega) hevl hm h1
   rw [exSs]
   suffices hs:n≤costS p i T n ⟨k,s,num,xs,th,el⟩∧((exS alu call p i secs ptrs ⟨k,s,num,xs,th,el⟩ x).2.2.opened.length:Int)≤x.2.2.opened.length+(costS p i T n ⟨k,s,num,xs,th,el⟩ - n) by
    exact ⟨by omega,by omega⟩
   have hle:costS p i T n ⟨k,s,num,xs,th,el⟩≤4000:=by omega
   clear hl ihl h1 hm
   rw [costS_eq] at hle ⊢
   rw [exS]
   have hA:=fun h=>args_opens (alu:=alu) (secs:=secs) (p:=p) (i:=i) hT hC x.1 ptrs xs x.2.2 h
   by_cases hk3:k=3
   ·have hn:=ha.2.2.2.2.1 hk3
    simp only at hn
    rw [if_pos hk3] at hle ⊢
    have h5:0≤num * (1+zz p i T 0 th):=Int.mul_nonneg (by omega) (by omega)
    have e1:num * (1+zz p i T 0 th)=num+num * zz p i T 0 th:=by rw [Int.mul_add,Int.mul_one]
    have h6:zz p i T 0 th≤num * zz p i T 0 th:=by
     have:=Int.mul_le_mul_of_nonneg_right (c:=zz p i T 0 th) hn.1 h2.1
     simpa using this
    have hf:=forN_opens (c:=zz p i T 0 th) (f:=fun m (y:Vars×St)=>((exSs alu call p i secs ptrs th (aput y.1 s (m:Int),0,y.2)).1,(exSs alu call p i secs ptrs th (aput y.1 s (m:Int),0,y.2)).2.2)) (fun m y=>by
     have:=(ih th (aput y.1 s (m:Int),0,y.2) 0 (by omega) hevt (by omega) (by omega)).2
     simp only at this ⊢
     omega) (x.1,x.2.2) num.toNat
    have e2:((num.toNat:Nat):Int)=num:=by omega
    rw [e2] at hf
    rw [if_neg (by omega),if_neg (by omega),if_neg (by omega),if_pos hk3]
    simp only at hf ⊢
    exact ⟨by omega,by omega⟩
   ·rw [if_neg hk3] at hle ⊢
    have hA1:=hA (by omega)
    refine ⟨by omega,?_⟩
    by_cases hk0:k=0
    ·rw [if_pos hk0];simp only;omega
    by_cases hk1:k=1
    ·rw [if_neg hk0,if_pos hk1];simp only [St.put];omega
    by_cases hk2:k=2
    ·rw [if_neg hk0,if_neg hk1,if_pos hk2]
     simp only
     split
     ·have:=(ih th (x.1,0,(evE alu call p i secs x.1 ptrs (arg0 xs) x.2.2).2) 0 (by omega) hevt (by omega) (by omega)).2
      simp only at this
      omega
     ·have:=(ih el (x.1,0,(evE alu call p i secs x.1 ptrs (arg0 xs) x.2.2).2) 0 (by omega) heve (by omega) (by omega)).2
      simp only at this
      omega
    by_cases hk4:k=4
    ·rw [if_neg hk0,if_neg hk1,if_neg hk2,if_neg hk3,if_pos hk4];simp only;omega
    rw [if_neg hk0,if_neg hk1,if_neg hk2,if_neg hk3,if_neg hk4]
    omega
theorem costTab_at (p:Src) (fn:Nat) (g:Fun) (hg:p.funcs[fn]?=some g):∀ n,fn<n→(qf p n).getD fn 0=zz p fn (qf p fn) 0 g.body
 | 0,h=>by omega
 | n+1,h=>by
  rw [qf]
  by_cases hlt:fn<n
  ·rw [List.getD_eq_getElem?_getD,List.getElem?_append_left (by rw [vq];exact hlt),← List.getD_eq_getElem?_getD]
   exact costTab_at p fn g hg n hlt
  ·have e:fn=n:=by omega
   subst e
   rw [List.getD_eq_getElem?_getD,List.getElem?_append_right (by rw [vq];omega),vq,Nat.sub_self,hg]
   rfl
theorem callT_opens {alu:Int→Int→Int→Int} {p:Src} {secs:Refs} (hF:kg p):∀ n,n≤p.funcs.length→FewOpens (callT alu p secs n) (qf p n)
 | 0,_=>fun j vs rs st h=>by rw [callT,qf];simp
 | n+1,hn=>fun j vs rs st h=>by
  have IH:=callT_opens (alu:=alu) (secs:=secs) hF n (by omega)
  have hT:=costTab_ok hF n (by omega)
  rw [callT]
  by_cases hj:j=n
  ·subst hj
   rw [if_pos rfl]
   cases hg:p.funcs[j]? with
   | none=>have:=List.getElem?_eq_none_iff.1 hg;omega
   | some g=>
    simp only
    rw [costTab_at p j g hg _ (by omega)] at h ⊢
    have:=(exSs_opens (alu:=alu) (secs:=secs) (p:=p) (i:=j) hT IH rs (wtSs g.body) g.body (vs,0,st) 0 (wo _) (hF.funs j g hg).evs (by omega) h).2
    simp only at this
    omega
  ·rw [if_neg hj]
   have e:(qf p (n+1)).getD j 0=(qf p n).getD j 0:=by
    rw [qf]
    by_cases hlt:j<n
    ·rw [List.getD_eq_getElem?_getD,List.getElem?_append_left (by rw [vq];exact hlt),← List.getD_eq_getElem?_getD]
    ·rw [List.getD_eq_getElem?_getD,List.getD_eq_getElem?_getD,List.getElem?_eq_none (by rw [List.length_append,vq];simp;omega),List.getElem?_eq_none (by rw [vq];omega)]
   rw [e] at h ⊢
   exact IH j vs rs st h
theorem body_opens {p:Src} {fn:Nat} {g:Fun} (args:List Int) (secs:List (List Int)) (shared:List Int) (hc:checkS p=0) (hg:p.funcs[fn]?=some g):(bodyS p fn g args secs shared).2.2.opened.length≤4000:=by
 unfold checkS at hc
 split at hc
 ·exact absurd hc ‹_›
 ·rename_i hr
  have hF:=srcFine_of (Decidable.not_not.1 hr)
  split at hc
  ·cases hc
  ·split at hc
   ·cases hc
   ·rename_i ht
    have hlt:fn<p.funcs.length:=(List.getElem?_eq_some_iff.1 hg).1
    rw [Bool.not_eq_false,List.all_eq_true] at ht
    have e:=costTab_at p fn g hg p.funcs.length hlt
    have h1:zz p fn (qf p fn) 0 g.body≤4000:=by
     rw [← e,List.getD_eq_getElem?_getD,List.getElem?_eq_getElem (by rw [vq];exact hlt)]
     exact of_decide_eq_true (ht _ (List.getElem_mem _))
    have:=(exSs_opens (alu:=aluF) (secs:=xy p.secrets) (costTab_ok hF fn (by omega)) (callT_opens (alu:=aluF) (secs:=xy p.secrets) hF fn (by omega)) (argsOf secs.length g args).2 (wtSs g.body) g.body ((argsOf secs.length g args).1,0,⟨secs++[shared],[]⟩) 0 (wo _) (hF.funs fn g hg).evs (by omega) h1).2
    unfold bodyS
    simp only [List.length_nil] at this
    omega
theorem run_opens (p:Src) (f:Int) (args:List Int) (secs:List (List Int)) (shared:List Int):(runS p f args secs shared).2.opened.length≤4000:=by
 unfold runS
 split
 ·simp
 ·rename_i hm
  cases hg:p.funcs[f.toNat]? with
  | none=>simp
  | some g=>
   simp only
   refine body_opens args secs shared ?_ hg
   rw [Bool.not_eq_false] at hm
   unfold mayS at hm
   split at hm
   ·cases hm
   ·rename_i h;simp only [not_or,Decidable.not_not] at h;exact h.1
end
section
open Go.RowKit
theorem zt {P:Program} {ops:Array Oper} {rest:List Oper} {o:Oper} {a:Act} {w:World} {Q:Exit→Act→World→Prop} (ty:TypeId) (x:Operand) (ho:o.op=.load ty x)
  (g:Nat) (hx:a.eval x=.pointer (some ⟨g,0,none⟩)) (t:TypeId) (cs:Array Value) (fr:Nat×Nat) (d:TypeDesc) (hg:w.heap[g]?=some (.cells cs t fr))
  (hu:P.underlying ty=some d) (hd:(match d with|.struct _|.array _ _=>true|_=>false)=true) (hi:(P.info? ty).map (·.size)=some cs.size) (hw:Region.wanted o (yielded ops a.tmps)=true)
  (h:wpList P ops Q rest (a.put o.dst (.agg cs)) w):wpList P ops Q (o::rest) a w:=by
 unfold wpList
 rw [if_pos hw]
 exact .inl (wp_load_row ty x ho g hx t cs fr d hg hu hd hi h)
theorem sameB_self (o:Out):sameB o o=true:=by simp [sameB,xq]
theorem small_wt {p:Src} {args:List Int} {secs:List (List Int)} {shared:List Int} (h:smallB p args secs shared=true):kj p≤3000:=by
 unfold smallB at h
 simp only [Bool.and_eq_true,decide_eq_true_eq] at h
 exact h.1
theorem src_fs {p:Src} (h:kj p≤3000):wtFs p.funcs≤100000:=by
 have:=wtFs_gs p.funcs
 unfold kj at h
 omega
theorem OutIs.below {w w':World} {o:Out} {v:Value} (h:OutIs w o v) (hb:Below w.heap.size w w'):OutIs w' o v:=by
 obtain ⟨a1,c1,a2,c2,a3,c3,rfl,h1,h2,h3⟩:=h
 exact ⟨a1,c1,a2,c2,a3,c3,rfl,h1.below hb,h2.imp (fun b o x _ hx=>hx.below hb x b o),h3.below hb⟩
theorem OutIs.world {w:World} {o:Out} {x:Value} {a1 a2 a3:Option Addr} {c1 c2 c3:Nat} (h:OutIs w o (.agg #[x,.slice a1 o.opened.length c1,.slice a2 o.secs.length c2,.slice a3 o.shared.length c3])):WorldIs w o.secs o.shared (.agg #[.slice a2 o.secs.length c2,.slice a3 o.shared.length c3]):=by
 obtain ⟨a1,c1,a2,c2,a3,c3,he,h1,h2,h3⟩:=h
 simp only [Value.agg.injEq,List.toArray_inj,Array.mk.injEq,List.cons.injEq,Value.slice.injEq,true_and,and_true] at he
 obtain ⟨-,-,⟨rfl,rfl⟩,rfl,rfl⟩:=he
 exact ⟨_,_,_,_,rfl,h2,h3⟩
theorem semAgain_any {p:Src} {f:Int} {args:List Int} {secs:List (List Int)} {shared:List Int} (v u:Value) (w:World) (hw:kj p≤1000000000) (hI:kn w p v) (hC:CallIs w f args secs shared u) (hua:∀ x∈args,U64 x) (hus:∀ l∈secs,∀ x∈l,U64 x) (huh:∀ x∈shared,U64 x) (hg:Glob w) :
  Calls Tryz.prog 7 #[v,u] w (fun e w'=>e=.returned (.bool true)∧Below w.heap.size w w'):=by
 have HI:=k8 hI
 have HC:=k8 hC
 have HG:=k8 hg
 have HUa:=k8 hua
 have HUs:=k8 hus
 have HUh:=k8 huh
 have HW0:=k8 hw
 obtain ⟨a0,c0,b0,d0,rfl,-,-⟩:=hI
 obtain ⟨a1,c1,a2,c2,a3,c3,rfl,hA,hS,hM⟩:=hC
 have HA:=k8 hA
 have HSec:=k8 hS
 have HSha:=k8 hM
 have hb1:=(wu w.heap.size w).alloc (wo _) (.cells #[.slice a0 p.secrets.length c0,.slice b0 p.funcs.length d0] 25)
 have hb2:=(wu (w.alloc (.cells #[.slice a0 p.secrets.length c0,.slice b0 p.funcs.length d0] 25)).heap.size (w.alloc (.cells #[.slice a0 p.secrets.length c0,.slice b0 p.funcs.length d0] 25))).alloc (wo _) (.cells #[.int .i64 f,.slice a1 args.length c1,.slice a2 secs.length c2,.slice a3 shared.length c3] 31)
 have hz:(w.alloc (.cells #[.slice a0 p.secrets.length c0,.slice b0 p.funcs.length d0] 25)).heap.size=w.heap.size+1:=by simp
 have r1:=ji hb2 (Go.heap_alloc_new w (.cells #[.slice a0 p.secrets.length c0,.slice b0 p.funcs.length d0] 25))
 have r2:=Go.heap_alloc_new (w.alloc (.cells #[.slice a0 p.secrets.length c0,.slice b0 p.funcs.length d0] 25)) (.cells #[.int .i64 f,.slice a1 args.length c1,.slice a2 secs.length c2,.slice a3 shared.length c3] 31)
 rw [hz] at r2
 have hB0:Below w.heap.size w ((w.alloc (.cells #[.slice a0 p.secrets.length c0,.slice b0 p.funcs.length d0] 25)).alloc (.cells #[.int .i64 f,.slice a1 args.length c1,.slice a2 secs.length c2,.slice a3 shared.length c3] 31)):=hb1.trans (hb2.mono (by omega))
 have R1:=k8 r1
 have R2:=k8 r2
 have HB0:=k8 hB0
 obtain ⟨R,hR⟩:∃ R,runS p f args secs shared=R:=⟨_,rfl⟩
 have hRo:=run_opens p f args secs shared
 rw [hR] at hRo
 have HR:=k8 hR
 have HRo:=k8 hRo
 clear hua hus huh hg hw hA hS hM hb1 hb2 hz r1 r2 hB0 hR hRo
 go_enter Tryz.func7,Tryz.ntmps7
 go_wp2_with fail
 generalize ((w.alloc (.cells #[.slice a0 p.secrets.length c0,.slice b0 p.funcs.length d0] 25)).alloc (.cells #[.int .i64 f,.slice a1 args.length c1,.slice a2 secs.length c2,.slice a3 shared.length c3] 31))=w0 at *
 refine (awake_any _ (HG.out.below HB0.out)).mono ?_
 rintro e w1 ⟨rfl,hb⟩
 have K1:=k8 (ji hb R1.out)
 have K2:=k8 (ji hb R2.out)
 have HB1:=k8 (HB0.out.trans (hb.mono HB0.out.size))
 clear hb R1 R2 HB0
 have HSm:=k8 (small_any p f args secs shared _ _ w1 HW0.out (HI.out.below HB1.out) ⟨a1,c1,a2,c2,a3,c3,rfl,HA.out.below HB1.out,HSec.out.imp (fun b o x _ hx=>hx.below HB1.out x b o),HSha.out.below HB1.out⟩)
 go_wp2_with ((first|refine zt 25 _ rfl w.heap.size rfl _ _ _ _ K1.out Tryz.underlying25 rfl (by kernel_rfl) (by first|rfl|kernel_rfl) ?_|refine zt 31 _ rfl (w.heap.size+1) rfl _ _ _ _ K2.out Tryz.underlying31 rfl (by kernel_rfl) (by first|rfl|kernel_rfl) ?_))
 refine HSm.out.mono ?_
 rintro e w2 ⟨rfl,hb⟩
 have K1b:=k8 (ji hb K1.out)
 have K2b:=k8 (ji hb K2.out)
 have HB2:=k8 (HB1.out.trans (hb.mono HB1.out.size))
 clear hb K1 K2 HB1 HSm
 cases hsm:smallB p args secs shared with
 | false=>
  clear hsm
  go_wp2_with fail
  go_ret
  exact ⟨rfl,HB2.out⟩
 | true=>
  have HWt:=k8 (small_wt hsm)
  have HWe:=k8 (Weight_any p _ w2 HW0.out (HI.out.below HB2.out))
  clear hsm
  go_wp2_with (refine zt 25 _ rfl w.heap.size rfl _ _ _ _ K1b.out Tryz.underlying25 rfl (by kernel_rfl) (by first|rfl|kernel_rfl) ?_)
  refine HWe.out.mono ?_
  rintro e w3 ⟨rfl,hb⟩
  have K1c:=k8 (ji hb K1b.out)
  have K2c:=k8 (ji hb K2b.out)
  have HB3:=k8 (HB2.out.trans (hb.mono HB2.out.size))
  clear hb K1b K2b HB2 HWe
  by_cases h2:kj p > 2000
  ·have g2:(kj p:Int) > 2000:=by omega
   have d2:decide ((kj p:Int) > 2000)=true:=decide_eq_true g2
   clear h2
   go_wp2_with fail
   go_ret
   exact ⟨rfl,HB3.out⟩
  ·have g2:¬ (kj p:Int) > 2000:=by omega
   have d2:decide ((kj p:Int) > 2000)=false:=decide_eq_false g2
   clear h2
   have hr:=run_any (w:=w3) (p:=p) (args:=args) (secs:=secs) (shared:=shared) (src_fs HWt.out) _ _ (f:=f) (HI.out.below HB3.out) (HG.out.below HB3.out) (HA.out.below HB3.out) HUa.out (wv:=.agg #[.slice a2 secs.length c2,.slice a3 shared.length c3]) ⟨a2,c2,a3,c3,rfl,HSec.out.imp (fun b o x _ hx=>hx.below HB3.out x b o),HSha.out.below HB3.out⟩ HUs.out HUh.out (by rw [HR.out];have:=HRo.out;omega)
   rw [HR.out] at hr
   have HRun4:=k8 hr
   clear hr
   have q0:=cell_of_row _ _ 0 _ _ _ K2c.out
   have q1:=cell_of_row _ _ 1 _ _ _ K2c.out
   simp only [List.getElem?_toArray,List.getElem?_cons_zero,List.getElem?_cons_succ] at q0 q1
   have ql:=(wl.1 K2c.out).1
   go_wp2_with ((first|refine zt 25 _ rfl w.heap.size rfl _ _ _ _ K1c.out Tryz.underlying25 rfl (by kernel_rfl) (by first|rfl|kernel_rfl) ?_|refine vj 29 _ rfl (w.heap.size+1) 2 rfl _ _ _ (cell_of_row _ _ 2 _ _ _ K2c.out) (cell_of_row _ _ 3 _ _ _ K2c.out) Tryz.underlying29 rfl (by kernel_rfl) (by first|rfl|kernel_rfl) ?_))
   clear q0 q1 ql
   refine (HRun4.out).mono ?_
   rintro e v4 ⟨hb,vv,rfl,⟨ra4,rc4,sa4,sc4,ta4,tc4,rfl,ho1,ho2,ho3⟩,hu1,hu2,hu3⟩
   have hn:=(wu v4.heap.size v4).alloc (wo _) (.cells #[.int .u64 0,.slice none 0 0,.slice none 0 0,.slice none 0 0] 37)
   have hq:=below_setRow hn (wo _) #[.int .u64 R.2.value,.slice ra4 R.2.opened.length rc4,.slice sa4 R.2.secs.length sc4,.slice ta4 R.2.shared.length tc4]
   have HZ:=k8 (Go.heap_alloc_new v4 (.cells #[.int .u64 0,.slice none 0 0,.slice none 0 0,.slice none 0 0] 37))
   have HK4:=k8 (Go.setRow_heap (v4.alloc (.cells #[.int .u64 0,.slice none 0 0,.slice none 0 0,.slice none 0 0] 37)) v4.heap.size _ #[.int .u64 R.2.value,.slice ra4 R.2.opened.length rc4,.slice sa4 R.2.secs.length sc4,.slice ta4 R.2.shared.length tc4] _ _ HZ.out)
   have hbq:=hb.trans (hq.mono hb.size)
   have HO4:Hid (OutIs ((v4.alloc (.cells #[.int .u64 0,.slice none 0 0,.slice none 0 0,.slice none 0 0] 37)).setRow v4.heap.size #[.int .u64 R.2.value,.slice ra4 R.2.opened.length rc4,.slice sa4 R.2.secs.length sc4,.slice ta4 R.2.shared.length tc4]) R.2 (.agg #[.int .u64 R.2.value,.slice ra4 R.2.opened.length rc4,.slice sa4 R.2.secs.length sc4,.slice ta4 R.2.shared.length tc4])):=k8 ⟨ra4,rc4,sa4,sc4,ta4,tc4,rfl,ho1.below hq,ho2.imp (fun b o x _ hx=>hx.below hq x b o),ho3.below hq⟩
   have K1_4:=k8 (ji hbq K1c.out)
   have K2_4:=k8 (ji hbq K2c.out)
   have HB4:=k8 (HB3.out.trans (hbq.mono HB3.out.size))
   clear hb hn hq hbq ho1 ho2 ho3 hu1 hu2 hu3 HRun4
   go_upto_region 6 with ((refine wpList_store_row rfl 37 _ _ rfl v4.heap.size #[.int .u64 R.2.value,.slice ra4 R.2.opened.length rc4,.slice sa4 R.2.secs.length sc4,.slice ta4 R.2.shared.length tc4] rfl rfl 37 _ HZ.out (by kernel_rfl) rfl (by simp [Value.oneCell']) ?_))
   clear HZ
   generalize (v4.alloc (.cells #[.int .u64 0,.slice none 0 0,.slice none 0 0,.slice none 0 0] 37)).setRow v4.heap.size #[.int .u64 R.2.value,.slice ra4 R.2.opened.length rc4,.slice sa4 R.2.secs.length sc4,.slice ta4 R.2.shared.length tc4]=w4 at *
   generalize v4.heap.size=g4 at *
   have hr:=run_any (w:=w4) (p:=p) (args:=args) (secs:=secs) (shared:=shared) (src_fs HWt.out) _ _ (f:=f) (HI.out.below HB4.out) (HG.out.below HB4.out) (HA.out.below HB4.out) HUa.out (wv:=.agg #[.slice a2 secs.length c2,.slice a3 shared.length c3]) ⟨a2,c2,a3,c3,rfl,HSec.out.imp (fun b o x _ hx=>hx.below HB4.out x b o),HSha.out.below HB4.out⟩ HUs.out HUh.out (by rw [HR.out];have:=HRo.out;omega)
   rw [HR.out] at hr
   have HRun6:=k8 hr
   clear hr
   have q0:=cell_of_row _ _ 0 _ _ _ K2_4.out
   have q1:=cell_of_row _ _ 1 _ _ _ K2_4.out
   simp only [List.getElem?_toArray,List.getElem?_cons_zero,List.getElem?_cons_succ] at q0 q1
   have ql:=(wl.1 K2_4.out).1
   go_wp2_with ((first|refine zt 25 _ rfl w.heap.size rfl _ _ _ _ K1_4.out Tryz.underlying25 rfl (by kernel_rfl) (by first|rfl|kernel_rfl) ?_|(refine vj 29 _ rfl (w.heap.size+1) 2 rfl _ _ _ (cell_of_row _ _ 2 _ _ _ K2_4.out) (cell_of_row _ _ 3 _ _ _ K2_4.out) Tryz.underlying29 rfl (by kernel_rfl) (by first|rfl|kernel_rfl) ?_)))
   clear q0 q1 ql
   refine (HRun6.out).mono ?_
   rintro e v6 ⟨hb,vv,rfl,⟨ra6,rc6,sa6,sc6,ta6,tc6,rfl,ho1,ho2,ho3⟩,hu1,hu2,hu3⟩
   have hn:=(wu v6.heap.size v6).alloc (wo _) (.cells #[.int .u64 0,.slice none 0 0,.slice none 0 0,.slice none 0 0] 37)
   have hq:=below_setRow hn (wo _) #[.int .u64 R.2.value,.slice ra6 R.2.opened.length rc6,.slice sa6 R.2.secs.length sc6,.slice ta6 R.2.shared.length tc6]
   have HZ:=k8 (Go.heap_alloc_new v6 (.cells #[.int .u64 0,.slice none 0 0,.slice none 0 0,.slice none 0 0] 37))
   have HK6:=k8 (Go.setRow_heap (v6.alloc (.cells #[.int .u64 0,.slice none 0 0,.slice none 0 0,.slice none 0 0] 37)) v6.heap.size _ #[.int .u64 R.2.value,.slice ra6 R.2.opened.length rc6,.slice sa6 R.2.secs.length sc6,.slice ta6 R.2.shared.length tc6] _ _ HZ.out)
   have hbq:=hb.trans (hq.mono hb.size)
   have HO6:Hid (OutIs ((v6.alloc (.cells #[.int .u64 0,.slice none 0 0,.slice none 0 0,.slice none 0 0] 37)).setRow v6.heap.size #[.int .u64 R.2.value,.slice ra6 R.2.opened.length rc6,.slice sa6 R.2.secs.length sc6,.slice ta6 R.2.shared.length tc6]) R.2 (.agg #[.int .u64 R.2.value,.slice ra6 R.2.opened.length rc6,.slice sa6 R.2.secs.length sc6,.slice ta6 R.2.shared.length tc6])):=k8 ⟨ra6,rc6,sa6,sc6,ta6,tc6,rfl,ho1.below hq,ho2.imp (fun b o x _ hx=>hx.below hq x b o),ho3.below hq⟩
   have K1_6:=k8 (ji hbq K1_4.out)
   have K2_6:=k8 (ji hbq K2_4.out)
   have HB6:=k8 (HB4.out.trans (hbq.mono HB4.out.size))
   have HK4b:=k8 (ji hbq HK4.out)
   have HO4b:=k8 (OutIs.below HO4.out hbq)
   clear hb hn hq hbq ho1 ho2 ho3 hu1 hu2 hu3 HRun6
   go_upto_region 7 with ((refine wpList_store_row rfl 37 _ _ rfl v6.heap.size #[.int .u64 R.2.value,.slice ra6 R.2.opened.length rc6,.slice sa6 R.2.secs.length sc6,.slice ta6 R.2.shared.length tc6] rfl rfl 37 _ HZ.out (by kernel_rfl) rfl (by simp [Value.oneCell']) ?_))
   clear HZ
   generalize (v6.alloc (.cells #[.int .u64 0,.slice none 0 0,.slice none 0 0,.slice none 0 0] 37)).setRow v6.heap.size #[.int .u64 R.2.value,.slice ra6 R.2.opened.length rc6,.slice sa6 R.2.secs.length sc6,.slice ta6 R.2.shared.length tc6]=w6 at *
   generalize v6.heap.size=g6 at *
   have HSa:=k8 (Same_any _ _ R.2 R.2 w6 HO4b.out HO6.out)
   rw [sameB_self] at HSa
   have tq:(R.1 != R.1)=false:=by simp
   go_wp2_with ((first|refine zt 37 _ rfl g4 rfl _ _ _ _ HK4b.out Tryz.underlying37 rfl (by kernel_rfl) (by first|rfl|kernel_rfl) ?_|refine zt 37 _ rfl g6 rfl _ _ _ _ HK6.out Tryz.underlying37 rfl (by kernel_rfl) (by first|rfl|kernel_rfl) ?_))
   refine HSa.out.mono ?_
   rintro e w7 ⟨rfl,hb⟩
   have HK47:=k8 (ji hb HK4b.out)
   have K1_7:=k8 (ji hb K1_6.out)
   have K2_7:=k8 (ji hb K2_6.out)
   have HO47:=k8 (OutIs.below HO4b.out hb)
   have HB7:=k8 (HB6.out.trans (hb.mono HB6.out.size))
   clear hb HSa HK4b HO4b HK6 HO6 K1_6 K2_6 HB6 tq
   by_cases hz:R.1=0
   ·have tz:(R.1 != 0)=false:=by simp [hz]
    have HRz:=k8 hz
    have HWo:=k8 (Worlds_any (.agg #[.slice sa4 R.2.secs.length sc4,.slice ta4 R.2.shared.length tc4]) (.agg #[.slice a2 secs.length c2,.slice a3 shared.length c3]) R.2.secs secs R.2.shared shared w7 (OutIs.world HO47.out) ⟨a2,c2,a3,c3,rfl,HSec.out.imp (fun b o x _ hx=>hx.below HB7.out x b o),HSha.out.below HB7.out⟩)
    clear hz
    go_wp2_with ((first|refine vj 29 _ rfl (g4) 2 rfl _ _ _ (cell_of_row _ _ 2 _ _ _ HK47.out) (cell_of_row _ _ 3 _ _ _ HK47.out) Tryz.underlying29 rfl (by kernel_rfl) (by first|rfl|kernel_rfl) ?_|refine vj 29 _ rfl (w.heap.size+1) 2 rfl _ _ _ (cell_of_row _ _ 2 _ _ _ K2_7.out) (cell_of_row _ _ 3 _ _ _ K2_7.out) Tryz.underlying29 rfl (by kernel_rfl) (by first|rfl|kernel_rfl) ?_))
    refine HWo.out.mono ?_
    rintro e w8 ⟨rfl,hb⟩
    have HK48:=k8 (ji hb HK47.out)
    have K1_8:=k8 (ji hb K1_7.out)
    have K2_8:=k8 (ji hb K2_7.out)
    have HO48:=k8 (OutIs.below HO47.out hb)
    have HB8:=k8 (HB7.out.trans (hb.mono HB7.out.size))
    clear hb HWo HK47 HO47 K1_7 K2_7 HB7 tz
    cases hwb:xq R.2.secs R.2.shared secs shared with
    | false=>
     clear hwb
     go_wp2_with fail
     go_ret
     exact ⟨rfl,HB8.out⟩
    | true=>
     have he:R.2.secs=secs∧R.2.shared=shared:=by
      unfold xq at hwb
      simpa using hwb
     have hr:=run_any (w:=w8) (p:=p) (args:=args) (secs:=secs) (shared:=shared) (src_fs HWt.out) _ _ (f:=f) (HI.out.below HB8.out) (HG.out.below HB8.out) (HA.out.below HB8.out) HUa.out (wv:=.agg #[.slice sa4 R.2.secs.length sc4,.slice ta4 R.2.shared.length tc4]) (by have h:=OutIs.world HO48.out;rw [he.1,he.2] at h ⊢;exact h) HUs.out HUh.out (by rw [HR.out];have:=HRo.out;omega)
     rw [HR.out] at hr
     have HRun9:=k8 hr
     clear hr he hwb
     have q0:=cell_of_row _ _ 0 _ _ _ K2_8.out
     have q1:=cell_of_row _ _ 1 _ _ _ K2_8.out
     simp only [List.getElem?_toArray,List.getElem?_cons_zero,List.getElem?_cons_succ] at q0 q1
     have ql:=(wl.1 K2_8.out).1
     go_wp2_with ((first|refine zt 25 _ rfl w.heap.size rfl _ _ _ _ K1_8.out Tryz.underlying25 rfl (by kernel_rfl) (by first|rfl|kernel_rfl) ?_|refine vj 29 _ rfl (g4) 2 rfl _ _ _ (cell_of_row _ _ 2 _ _ _ HK48.out) (cell_of_row _ _ 3 _ _ _ HK48.out) Tryz.underlying29 rfl (by kernel_rfl) (by first|rfl|kernel_rfl) ?_))
     clear q0 q1 ql
     refine (HRun9.out).mono ?_
     rintro e v9 ⟨hb,vv,rfl,⟨ra9,rc9,sa9,sc9,ta9,tc9,rfl,ho1,ho2,ho3⟩,hu1,hu2,hu3⟩
     have hn:=(wu v9.heap.size v9).alloc (wo _) (.cells #[.int .u64 0,.slice none 0 0,.slice none 0 0,.slice none 0 0] 37)
     have hq:=below_setRow hn (wo _) #[.int .u64 R.2.value,.slice ra9 R.2.opened.length rc9,.slice sa9 R.2.secs.length sc9,.slice ta9 R.2.shared.length tc9]
     have HZ:=k8 (Go.heap_alloc_new v9 (.cells #[.int .u64 0,.slice none 0 0,.slice none 0 0,.slice none 0 0] 37))
     have HK9:=k8 (Go.setRow_heap (v9.alloc (.cells #[.int .u64 0,.slice none 0 0,.slice none 0 0,.slice none 0 0] 37)) v9.heap.size _ #[.int .u64 R.2.value,.slice ra9 R.2.opened.length rc9,.slice sa9 R.2.secs.length sc9,.slice ta9 R.2.shared.length tc9] _ _ HZ.out)
     have hbq:=hb.trans (hq.mono hb.size)
     have HO9:Hid (OutIs ((v9.alloc (.cells #[.int .u64 0,.slice none 0 0,.slice none 0 0,.slice none 0 0] 37)).setRow v9.heap.size #[.int .u64 R.2.value,.slice ra9 R.2.opened.length rc9,.slice sa9 R.2.secs.length sc9,.slice ta9 R.2.shared.length tc9]) R.2 (.agg #[.int .u64 R.2.value,.slice ra9 R.2.opened.length rc9,.slice sa9 R.2.secs.length sc9,.slice ta9 R.2.shared.length tc9])):=k8 ⟨ra9,rc9,sa9,sc9,ta9,tc9,rfl,ho1.below hq,ho2.imp (fun b o x _ hx=>hx.below hq x b o),ho3.below hq⟩
     have K1_9:=k8 (ji hbq K1_8.out)
     have K2_9:=k8 (ji hbq K2_8.out)
     have HB9:=k8 (HB8.out.trans (hbq.mono HB8.out.size))
     have HK49:=k8 (ji hbq HK48.out)
     have HO49:=k8 (OutIs.below HO48.out hbq)
     clear hb hn hq hbq ho1 ho2 ho3 hu1 hu2 hu3 HRun9
     go_upto_region 12 with ((refine wpList_store_row rfl 37 _ _ rfl v9.heap.size #[.int .u64 R.2.value,.slice ra9 R.2.opened.length rc9,.slice sa9 R.2.secs.length sc9,.slice ta9 R.2.shared.length tc9] rfl rfl 37 _ HZ.out (by kernel_rfl) rfl (by simp [Value.oneCell']) ?_))
     clear HZ
     generalize (v9.alloc (.cells #[.int .u64 0,.slice none 0 0,.slice none 0 0,.slice none 0 0] 37)).setRow v9.heap.size #[.int .u64 R.2.value,.slice ra9 R.2.opened.length rc9,.slice sa9 R.2.secs.length sc9,.slice ta9 R.2.shared.length tc9]=w9 at *
     generalize v9.heap.size=g9 at *
     have HSa:=k8 (Same_any _ _ R.2 R.2 w9 HO49.out HO9.out)
     rw [sameB_self] at HSa
     have tz:(R.1 == 0)=true:=by simp [HRz.out]
     go_wp2_with ((first|refine zt 37 _ rfl g4 rfl _ _ _ _ HK49.out Tryz.underlying37 rfl (by kernel_rfl) (by first|rfl|kernel_rfl) ?_|refine zt 37 _ rfl g9 rfl _ _ _ _ HK9.out Tryz.underlying37 rfl (by kernel_rfl) (by first|rfl|kernel_rfl) ?_))
     refine HSa.out.mono ?_
     rintro e w10 ⟨rfl,hb⟩
     have HBe:=k8 (HB9.out.trans (hb.mono HB9.out.size))
     clear hb
     go_wp2_with fail
     go_ret
     exact ⟨rfl,HBe.out⟩
   ·have tz:(R.1 != 0)=true:=by simp [hz]
    clear hz
    go_wp2_with fail
    go_ret
    exact ⟨rfl,HB7.out⟩
end
section
open Go.RowKit Go.Shelf Go.Lib Go.ChangeShapes Go.WideShapes Go.ChangeAt
theorem semAgain_reads (os:Os) {H:Type} (enc:TypeId×Value→H):DataW.whole enc Tryz.prog ((World.laidAll Tryz.prog os lawLaid).forCall (fun _ _=>0) ⟨#[],#[.agg #[.slice none 0 0,.slice none 0 0],.agg #[.int .i64 0,.slice none 0 0,.slice none 0 0,.slice none 0 0]],[]⟩).memory Tryz.f7.params.toList Rows.semAgainSpec.vars false #[.agg #[.slice none 0 0,.slice none 0 0],.agg #[.int .i64 0,.slice none 0 0,.slice none 0 0,.slice none 0 0]].toList 8=some ([.agg [.nil,.nil],.agg [.lit (.int .i64 0),.nil,.agg [.nil,.nil]]],[],[]):=by kernel_rfl
theorem semAgain_witness (os:Os) {H:Type} (enc:TypeId×Value→H):∃ (w:World) (tape:Tape) (i:Input),w.os=os∧(w.forCall tape i).Shaped Tryz.checked.prog∧i.vars=[]∧Input.okWide Tryz.checked.prog (w.forCall tape i) .any w.heap.size 7 i ∧
  (Rows.OpenSpec.upto Rows.semAgainSpec).preRow enc Tryz.checked.prog Tryz.f7 [] false lawLaid (w.forCall tape i).memory i.args∧({}:Assume).holds Tryz.checked.prog (lone (Frame.enter Tryz.checked.prog 7 i.args .normal) [] (w.forCall tape i)):=
 ⟨World.laidAll Tryz.prog os lawLaid,fun _ _=>0,⟨#[],#[.agg #[.slice none 0 0,.slice none 0 0],.agg #[.int .i64 0,.slice none 0 0,.slice none 0 0,.slice none 0 0]],[]⟩,World.laidAll_os _ _ _,World.shaped_of_ZipB (by kernel_rfl) (by kernel_rfl),rfl,(Input.okWide_of_okWideB (by kernel_rfl)).2,
  OpenSpec.preRow_of_cond 8 (semAgain_reads os enc) (by kernel_rfl) (fun k hk=>by cases hk;kernel_rfl) (by kernel_rfl) (by rw [MakeChecks.laidMetH_plain _ _ _ (by kernel_rfl)];exact laidMet_laidAll _ (by kernel_rfl) (by kernel_rfl)),by
  simp only [Assume.holds]
  exact ⟨by simp,by simp,fun _=>Modest.zero,by simp,by simp⟩⟩
theorem semAgain_contract (H:Type) (enc:TypeId×Value→H) (W:World) (base:Nat) (args:Array Value) (ds gs:List (DataW H)) (before:List MemPlace)
  (hval0:∀ (j:Nat) t v,Tryz.f7.params[j]?=some t→args[j]?=some v→Value.okWide Tryz.prog W .any base t v)
  (hW:DataW.Whole enc Tryz.prog Tryz.f7.params.toList Rows.semAgainSpec.vars false W args.toList ds gs before) (hcond:Rows.uptoSmall H (ds++gs)=true)
  (hwt:(DataW.weightsEach Tryz.prog (Tryz.f7.params.toList++Rows.semAgainSpec.plain.varTypes Tryz.prog) (ds++gs)).all (·≤reachBytes)=true) (hL:laidMetH Tryz.prog lawLaid W) :
  Calls Tryz.prog 7 args W fun e W'=>∃ v,e=.returned v∧Rows.semAgainSpec.post enc Tryz.prog Tryz.f7 false true false false W args v W':=by
 have hval:=hval0
 have hW':=hW
 obtain ⟨p,q,hA0,hV,rfl,_,_⟩:=hW
 have hA:DataW.TrodAll enc Tryz.prog W 0 (fun _=>true) true Tryz.f7.params.toList args.toList ds p:=hA0
 rw [Tryz.params7] at hA hval
 obtain ⟨v0,v1,d0,d1,p0,p1,rfl,rfl,rfl,h0,h1⟩:=trodAll_two hA
 obtain ⟨rfl,rfl⟩:=trodVars_none hV
 simp only [List.append_nil] at hW'
 have hlt:∀ x∈p0++p1,x.block<W.heap.size:=fun x hx=>hW'.lt x (by simpa using hx)
 have hG:=glob_of_laid hL
 have hk:Rows.uptoBulkAll ([d0,d1]++[])≤1048576:=of_decide_eq_true hcond
 simp only [List.append_nil,Rows.uptoBulkAll] at hk
 obtain ⟨src,hI,hw⟩:=src_of (hval 0 25 v0 rfl rfl) h0 (weights_at hwt (j:=0) rfl rfl)
 obtain ⟨f,as0,secs,shared,hC,hu1,hu2,hu3⟩:=call_of (hval 1 31 v1 rfl rfl) h1 (weights_at hwt (j:=1) rfl rfl)
 refine (semAgain_any v0 v1 W (by omega) hI hC hu1 hu2 hu3 hG).mono fun e W' ⟨he,hb⟩=>?_
 subst he
 exact ⟨_,rfl,_,_,_,[],_,[],hW',trodAll_mk1 (shut_bool Tryz.underlying4 _),(trodAll_mk2 (Below.trod laid_out (by kernel_rfl) (of_decide_eq_true (by kernel_rfl)) h0 hb (fun x hx=>hlt x (by simp [hx]))) (Below.trod laid_out (by kernel_rfl) (of_decide_eq_true (by kernel_rfl)) h1 hb (fun x hx=>hlt x (by simp [hx])))),rfl,hb.frame _,fun h=>by cases h⟩
theorem semAgain_lifted (os:Os) (started:os.Started) (H:Type) (enc:TypeId×Value→H) (F:Stop.Interp) :
  ReturnsInHanded {} Tryz.checked os 7 .any ((Rows.OpenSpec.upto Rows.semAgainSpec).preRow enc Tryz.prog Tryz.f7 Rows.semAgainUptoRow.domain false Rows.semAgainUptoRow.laid) (((Rows.OpenSpec.upto Rows.semAgainSpec).at F).post enc Tryz.prog Tryz.f7 false true false false):=by
 refine returnsInHanded_of_row (C:=Tryz.checked) (s:=Rows.OpenSpec.upto Rows.semAgainSpec) ownKnob_none started (by kernel_rfl) Tryz.func7 (semAgain_witness os enc) ?_
 intro W base args ds gs before hval hW _ hcond hwt hL _ _
 exact semAgain_contract H enc W base args ds gs before hval hW (hcond _ rfl) hwt hL
theorem semAgain_row:Rows.SemAgainUptoSaid:=
 OpenClaim.holds_of_cond 7 Tryz.f7 rfl rfl rfl rfl rfl rfl rfl ⟨rfl,rfl,rfl,rfl,rfl⟩ rfl rfl rfl rfl rfl (by kernel_rfl) Tryz.func7 (by kernel_rfl)
  (of_decide_eq_true (by kernel_rfl)) (by unfold Func.isWrapper;first|(rw [if_pos (by decide +kernel)];kernel_rfl)|(rw [if_neg (by decide +kernel)];exact ⟨rfl,rfl⟩))
  (fun os started H enc _ F=>by rw [OpenClaim.pre_eq_preRow];exact semAgain_lifted os started H enc F)
theorem semAgain_holds:Rows.SemAgainUptoCardSaid:=
 Claim7.holds_tied_plain_at .later [] [.data,.data,.data,.data,.pinned] true (true, "58d88c0b659ec0b2144c551f2435681ed6d909dda393ac60c95d3fdaa74503c2") true semAgain_row (fun _ h=>by cases h) (by kernel_rfl) (fun _ h=>by cases h) semAgainUpto_row_tie rfl ⟨rfl,rfl⟩ (by kernel_rfl) rfl
  (fun f fn hf hfn=>by
   obtain rfl:f=7:=Option.some.inj ((show Tryz.prog.funcNamed "caponier/caponierlaw12.SemAgain"=some 7 by kernel_rfl).symm.trans hf) |>.symm
   obtain rfl:fn=Tryz.f7:=(Option.some.inj (Tryz.func7.symm.trans hfn)).symm
   exact ⟨by kernel_rfl,fun j t ht=>by
    rw [Tryz.params7] at ht
    have hm:t∈[25,31]:=by simpa using Array.mem_of_getElem? ht
    have hall:([25,31].all fun u=>!Tryz.prog.wantsStandIn u)=true:=by kernel_rfl
    exact (show Tryz.prog.wantsStandIn t=false by simpa using List.all_eq_true.1 hall t hm)⟩)
  (by kernel_rfl)
end
#print axioms semAgain_holds
end Go.Proofs.YtdembmaldllmkaaGreatDoor
