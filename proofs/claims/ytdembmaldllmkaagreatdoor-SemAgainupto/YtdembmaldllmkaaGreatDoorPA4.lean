/-
  Part of the proofs of laws over the given program: contracts of its functions (what each computes, of which input), and the tables and data that they read.
  Conditions: none beyond the theorems' own hypotheses.
-/
import Derived.Test.YtdembmaldllmkaaGreatDoorPA3
import Derived.Laws.Externs
import Derived.Laws.Bits
import Derived.Laws.Shifts
import Derived.Laws.ShiftsVar
import Derived.Laws.Bits64
import Derived.Laws.Bits64b
import Derived.Laws.Closers25b
set_option linter.unusedVariables false
set_option linter.unusedSimpArgs false
set_option maxHeartbeats 32000000
set_option maxRecDepth 100000
namespace Go.Proofs.YtdembmaldllmkaaGreatDoor
section
open Go.RowKit
def BareRet (p:Src) (tb:Nat) (w:World) (b:Bool) (e:Ending) (w':World):Prop:=Kept [tb] w w'∧Told p tb w'∧(if b=true then e=.panicked [yu 9] else e=.returned (.tuple #[]))
theorem bare_any {w0:World} {p:Src} {i:Nat} {f:Fun} {vb ab pb sb tb:Nat} {w:World} (hF:kg p) (hWt:wtFs p.funcs≤100000) (hB0:Below w0.heap.size w0 w) (hv:qj w0 p i f w vb ab pb sb tb) (hs:MapB w sb (secS p i f)) (ht:Told p tb w) (x:Expr) (v:Value) (hx:zl w0 x v) (hc:∀ y∈y4 x,kw p i y) :
  Calls Tryz.prog 76 #[.pointer (some ⟨vb,0,none⟩),v] w (BareRet p tb w (hid p i f x)):=by
 obtain ⟨a,c,rfl,hsl⟩:=qu hx
 have hBl:=(wu w.heap.size w).alloc (wo _) (.cells #[.int .i64 x.kind,.int .u64 x.num,.string x.name,.slice a x.args.length c] 53)
 have HH:=k8 (hidden_any (fun j _=>result_any hF hWt j) x.wt x _ _ (wo _) (hB0.trans (hBl.mono hB0.size)) (hv.below hBl) (j5.below hs hBl) (ht.below hBl) hc hx)
 have HB:=k8 hBl
 have hd:q7 (jt p) (secS p i f) (resS p i) x=hid p i f x:=rfl
 rw [hd] at HH
 generalize hid p i f x=B at *
 clear hd hB0 hv hs ht hc hx hBl hF hWt hsl
 go_enter Tryz.func76,Tryz.ntmps76
 go_wp2_with fail
 refine HH.out.mono ?_
 rintro e w1 ⟨rfl,hK,hT⟩
 have HK:=k8 ((jd HB.out).trans hK)
 have HT:=k8 hT
 clear hK hT HH
 cases B with
 | true=>
  go_wp2_with fail
  refine (zd 9 _).mono ?_
  rintro e' w2 ⟨rfl,rfl⟩
  go_wp2
  exact ⟨rfl,HK.out,HT.out,rfl⟩
 | false=>
  go_wp2_with fail
  refine (zn 9 _).mono ?_
  rintro e' w2 ⟨rfl,rfl⟩
  go_wp2
  go_end0
  exact ⟨HK.out,HT.out,rfl⟩
theorem len1 {α:Type} {xs:List α} (h:xs.length=1):∃ e,xs=[e]:=List.length_eq_one_iff.1 h
theorem len2 {α:Type} {xs:List α} (h:xs.length=2):∃ e e',xs=[e,e']:=by
 match xs,h with
 | [a,b],_=>exact ⟨a,b,rfl⟩
theorem getD_int (o:Option Int):(o.map (Value.int .i64)).getD (.int .i64 0)=.int .i64 (o.getD 0):=by cases o<;>rfl
theorem ptr_get (l:List (ByteArray×Int)) (s:ByteArray):(aget (l.map fun x=>(x.1,Value.int .i64 x.2)) s).getD (.int .i64 0)=.int .i64 ((aget l s).getD 0):=by rw [ka,getD_int]
theorem ptr_is (l:List (ByteArray×Int)) (s:ByteArray):(aget (l.map fun x=>(x.1,Value.int .i64 x.2)) s).isSome=(aget l s).isSome:=by rw [ka,Option.isSome_map]
theorem ye {w0 w:World} {b o:Nat} {x:Expr} (h:zo w0 b o x) (hb:Below w0.heap.size w0 w):∃ a c,(w.cell? ⟨b,o,none⟩=some (.int .i64 x.kind)∧w.cell? ⟨b,o+1,none⟩=some (.int .u64 x.num)∧w.cell? ⟨b,o+2,none⟩=some (.string x.name)∧w.cell? ⟨b,o+3,none⟩=some (.slice a x.args.length c)) ∧
  zl w0 x (.agg #[.int .i64 x.kind,.int .u64 x.num,.string x.name,.slice a x.args.length c])∧b<w0.heap.size:=by
 obtain ⟨a,c,h0,h1,h2,h3,hI,_⟩:=yl h
 exact ⟨a,c,⟨jb hb h0,jb hb h1,jb hb h2,jb hb h3⟩,hI,k9 w0 _ h0⟩
theorem keptEv_one (p:Src) (i:Nat) (f:Fun) (h:Expr→Bool) (s:ByteArray) (n:Int) (e0:Expr) (t e:List Stmt):yy p i f h (.inl ⟨2,s,n,[e0],t,e⟩)=!h e0:=by rw [yy,if_pos rfl];rfl
theorem keptEv_put (p:Src) (i:Nat) (f:Fun) (h:Expr→Bool) (s:ByteArray) (n:Int) (e0 e1:Expr) (t e:List Stmt):yy p i f h (.inl ⟨1,s,n,[e0,e1],t,e⟩)=(!h e0 && (if (aget (zm f) s).isSome=true then !h e1 else true)):=by
 rw [yy,if_neg (show ¬ (1:Int)=2 by decide),if_pos rfl];rfl
theorem keptEv_ret (p:Src) (i:Nat) (f:Fun) (h:Expr→Bool) (s:ByteArray) (n:Int) (e0:Expr) (t e:List Stmt):yy p i f h (.inl ⟨4,s,n,[e0],t,e⟩)=(!f.out || !h e0):=by
 rw [yy,if_neg (show ¬ (4:Int)=2 by decide),if_neg (show ¬ (4:Int)=1 by decide),if_pos rfl];rfl
theorem keptEv_else (p:Src) (i:Nat) (f:Fun) (h:Expr→Bool) (x:Stmt) (h2:x.kind≠2) (h1:x.kind≠1) (h4:x.kind≠4):yy p i f h (.inl x)=true:=by
 rw [yy,if_neg h2,if_neg h1,if_neg h4]
theorem kept1_any {w0:World} {p:Src} {i:Nat} {f:Fun} {vb ab pb sb tb cb:Nat} {w:World} (hF:kg p) (hWt:wtFs p.funcs≤100000) (hB0:Below w0.heap.size w0 w) (h:SInv w0 p i f vb ab pb sb tb cb (secS p i f) w) (hct:cb≠tb) (x:Stmt) (v:Value) (hx:yn w0 x v) (hok:kh p i (.inl x)) :
  Calls Tryz.prog 75 #[v,.pointer (some ⟨cb,0,none⟩)] w (EvRet [tb] 9 (fun (_:Unit) w=>SInv w0 p i f vb ab pb sb tb cb (secS p i f) w) (optB (yy p i f (hid p i f) (.inl x))) w):=by
 obtain ⟨k,s,n,xs,t,e⟩:=x
 obtain ⟨a0,c0,a1,c1,a2,c2,rfl,hsl⟩:=stmtOpen2 hx
 simp only at hsl ⊢
 have htw:=h.told.lt
 have hBl:=(wu w.heap.size w).alloc (wo _) (.cells #[.int .i64 k,.string s,.int .i64 n,.slice a0 xs.length c0,.slice a1 t.length c1,.slice a2 e.length c2] 58)
 have hx0:(w.alloc (.cells #[.int .i64 k,.string s,.int .i64 n,.slice a0 xs.length c0,.slice a1 t.length c1,.slice a2 e.length c2] 58)).cell? ⟨w.heap.size,0,none⟩=some (.int .i64 k):=by simp
 have hx1:(w.alloc (.cells #[.int .i64 k,.string s,.int .i64 n,.slice a0 xs.length c0,.slice a1 t.length c1,.slice a2 e.length c2] 58)).cell? ⟨w.heap.size,1,none⟩=some (.string s):=by simp
 have hx3:(w.alloc (.cells #[.int .i64 k,.string s,.int .i64 n,.slice a0 xs.length c0,.slice a1 t.length c1,.slice a2 e.length c2] 58)).cell? ⟨w.heap.size,3,none⟩=some (.slice a0 xs.length c0):=by simp
 have HX0:=k8 hx0
 have HX1:=k8 hx1
 have HB:=k8 hBl
 have HI:=k8 (h.below hBl)
 have HTd:=k8 HI.out.told
 have HXtb:=k8 (show w.heap.size≠tb by omega)
 have HCtb:=k8 hct
 obtain ⟨_,_,_,_,_,_,_,_,-,-,-,-,g4,-,-,-,g8,-,-,-,-⟩:=HI.out.view.open
 have HV8:=k8 g8
 have HV4:=k8 g4
 have HVtb:=k8 h.view.nv.2.2.2
 have htlo:=h.view.lo.2.2.2.2
 have hBW:=hB0.trans (hBl.mono hB0.size)
 obtain ⟨m,hm⟩:∃ m,(aget (zm f) s).getD 0=m:=⟨_,rfl⟩
 obtain ⟨o,ho⟩:∃ o,(aget (zm f) s).isSome=o:=⟨_,rfl⟩
 have HM:=k8 hm
 have HO:=k8 ho
 have HBr:=k8 (fun (x:Expr) (v:Value) (hx:zl w0 x v) (hc:∀ y∈y4 x,kw p i y) (y:World) (hK:Kept [tb] (w.alloc (.cells #[.int .i64 k,.string s,.int .i64 n,.slice a0 xs.length c0,.slice a1 t.length c1,.slice a2 e.length c2] 58)) y) (hT:Told p tb y)=>
  bare_any hF hWt (hBW.trans (hK.below (B:=w0.heap.size) hBW.size (fun b hb=>by simp only [wy] at hb;subst hb;exact htlo))) (HI.out.view.told hK) (HI.out.told' hct hK hT).sec hT x v hx hc)
 have HHd:=k8 (fun (x:Expr) (v:Value) (hx:zl w0 x v) (hc:∀ y∈y4 x,kw p i y) (y:World) (hK:Kept [tb] (w.alloc (.cells #[.int .i64 k,.string s,.int .i64 n,.slice a0 xs.length c0,.slice a1 t.length c1,.slice a2 e.length c2] 58)) y) (hT:Told p tb y)=>
  hidden_any (fun j _=>result_any hF hWt j) x.wt x v y (wo _) (hBW.trans (hK.below (B:=w0.heap.size) hBW.size (fun b hb=>by simp only [wy] at hb;subst hb;exact htlo))) (HI.out.view.told hK) (HI.out.told' hct hK hT).sec hT hc hx)
 have HFin:=k8 (fun (y:World) (hK:Kept [tb] (w.alloc (.cells #[.int .i64 k,.string s,.int .i64 n,.slice a0 xs.length c0,.slice a1 t.length c1,.slice a2 e.length c2] 58)) y) (hT:Told p tb y)=>(show Kept [tb] w y∧SInv w0 p i f vb ab pb sb tb cb (secS p i f) y from ⟨(jd hBl).trans hK,HI.out.told' hct hK hT⟩))
 have har:=hok.1
 have hde:=hok.2
 simp only at hde
 clear hx hB0 hBl hF hWt h g4 g8 hok
 have HK0:=k8 (Kept.refl [tb] (w.alloc (.cells #[.int .i64 k,.string s,.int .i64 n,.slice a0 xs.length c0,.slice a1 t.length c1,.slice a2 e.length c2] 58)))
 by_cases h2:k=2
 ·subst h2
  obtain ⟨e0,rfl⟩:=len1 (xs:=xs) (by
   have h1:=har.2.2.1;have h2:=har.2.2.2.1
   simp only at h1 h2
   rw [show (js 2).least=1 from rfl] at h1;rw [show (js 2).most=1 from rfl] at h2;omega)
  obtain ⟨_,_,he,hlc,hll,hr⟩:=hsl
  simp only [Value.slice.injEq] at he
  obtain ⟨rfl,-,rfl⟩:=he
  obtain ⟨xb,xo,rfl,hro⟩:=hr (by simp)
  obtain ⟨e0a,e0c,hc0,hXI,hxlt⟩:=ye (hro 0 e0 rfl) hBW
  rw [Nat.zero_mul,Nat.add_zero] at hc0
  have He0:=k8 hc0
  have HEtb:=k8 (show xb≠tb by omega)
  have HX3:=k8 hx3
  have HBr_e0:=k8 (HBr.out e0 _ hXI (fun z hz=>(hde z (jq.2 ⟨e0,by simp,hz⟩)).2))
  clear hc0 hr hro hlc hll hxlt
  simp only [List.length_cons,List.length_nil,Nat.zero_add] at *
  have hev:=keptEv_one p i f (hid p i f) s n e0 t e
  rw [hev]
  clear hev hm ho hde har hx0 hx1 hx3 HBr HHd hBW
  generalize hid p i f e0=B at *
  cases o with
  | false=>
   go_enter Tryz.func75,Tryz.ntmps75
   go_wp2_with fail
   refine je zi [.is (.pointer (some ⟨vb,0,none⟩)),.is (.pointer (some ⟨vb,0,none⟩)),.is (.pointer (some ⟨vb,8,none⟩)),.is (.map (some pb)),.is (.pointer (some ⟨w.heap.size,1,none⟩)),.is (.string s),.is (.tuple #[.int .i64 m,.bool false]),.is (.tuple #[.int .i64 m,.bool false]),.is (.int .i64 m),.is (.bool false),.is (.int .i64 m)] (by kernel_rfl) 11 (by decide) (by kernel_rfl) _ rfl ?_ ?_
   ·refine ⟨?_,?_,?_,?_,?_,?_,?_,?_,?_,?_,?_,trivial⟩
    ·refine jc rfl rfl rfl fun x y hB hF hD=>?_
     have e1:slot x 1=.pointer (some ⟨cb,0,none⟩):=hF.at 1 rfl
     have hc:y.cell? ⟨cb,0,none⟩=some (.pointer (some ⟨vb,0,none⟩)):=jb hB HI.out.var
     clear hB hF
     simp only [execOp,ja,e1]
     first|rfl|(go_simp;try rfl)
    ·refine jc rfl rfl rfl fun x y hB hF hD=>?_
     obtain ⟨d0,-⟩:=hD
     have e6:slot x 6=.pointer (some ⟨vb,0,none⟩):=d0 rfl
     clear hB hF
     simp only [execOp,ja,e6]
     first|rfl|(go_simp;try rfl)
    ·refine jc rfl rfl rfl fun x y hB hF hD=>?_
     obtain ⟨d0,-⟩:=hD
     have e7:slot x 7=.pointer (some ⟨vb,0,none⟩):=d0 rfl
     clear hB hF
     simp only [execOp,ja,e7]
     first|rfl|(go_simp;try rfl)
    ·refine jc rfl rfl rfl fun x y hB hF hD=>?_
     obtain ⟨d0,-⟩:=hD
     have e8:slot x 8=.pointer (some ⟨vb,8,none⟩):=d0 rfl
     have hc:y.cell? ⟨vb,8,none⟩=some (.map (some pb)):=jb hB HV8.out
     clear hB hF
     simp only [execOp,ja,e8]
     first|rfl|(go_simp;try rfl)
    ·refine jc rfl rfl rfl fun x y hB hF hD=>?_
     have e2:slot x 2=.pointer (some ⟨w.heap.size,0,none⟩):=hF.at 2 rfl
     clear hB hF
     simp only [execOp,ja,e2]
     first|rfl|(go_simp;try rfl)
    ·refine jc rfl rfl rfl fun x y hB hF hD=>?_
     obtain ⟨d0,-⟩:=hD
     have e10:slot x 10=.pointer (some ⟨w.heap.size,1,none⟩):=d0 rfl
     have hc:y.cell? ⟨w.heap.size,1,none⟩=some (.string s):=jb hB HX1.out
     clear hB hF
     simp only [execOp,ja,e10]
     first|rfl|(go_simp;try rfl)
    ·refine jc rfl rfl rfl fun x y hB hF hD=>?_
     obtain ⟨d0,d1,-⟩:=hD
     have e1:slot x 9=.map (some pb):=d0 rfl
     have e2:slot x 11=.string s:=d1 rfl
     have hrun:=xr keyS (j5.below HI.out.view.pointers hB) Tryz.underlying124 (zeroI y) s true
     rw [if_pos rfl,ptr_get,ptr_is,HM.out,HO.out] at hrun
     clear hB hF
     simp only [execOp,ja,e1,e2]
     simp [hrun,Result.andThen]
    ·refine jc rfl rfl rfl fun x y hB hF hD=>?_
     obtain ⟨d0,-⟩:=hD
     have e12:slot x 12=.tuple #[.int .i64 m,.bool false]:=d0 rfl
     clear hB hF
     simp only [execOp,ja,e12]
     first|rfl|(go_simp;try rfl)
    ·refine jc rfl rfl rfl fun x y hB hF hD=>?_
     obtain ⟨d0,-⟩:=hD
     have e5:slot x 5=.tuple #[.int .i64 m,.bool false]:=d0 rfl
     clear hB hF
     simp only [execOp,ja,e5]
     first|rfl|(go_simp;try rfl)
    ·refine jc rfl rfl rfl fun x y hB hF hD=>?_
     obtain ⟨d0,-⟩:=hD
     have e5:slot x 5=.tuple #[.int .i64 m,.bool false]:=d0 rfl
     clear hB hF
     simp only [execOp,ja,e5]
     first|rfl|(go_simp;try rfl)
    ·refine jc rfl rfl rfl fun x y hB hF hD=>?_
     obtain ⟨d0,-⟩:=hD
     have e13:slot x 13=.int .i64 m:=d0 rfl
     clear hB hF
     simp only [execOp,ja,e13]
     first|rfl|(go_simp;try rfl)
   ·intro x y hB hF hP
    obtain ⟨p0,p1,p2,p3,p4,p5,p6,p7,p8,p9,p10,-⟩:=hP
    have hx:=jj hF [(6,.pointer (some ⟨vb,0,none⟩)),(7,.pointer (some ⟨vb,0,none⟩)),(8,.pointer (some ⟨vb,8,none⟩)),(9,.map (some pb)),(10,.pointer (some ⟨w.heap.size,1,none⟩)),(11,.string s),(12,.tuple #[.int .i64 m,.bool false]),(5,.tuple #[.int .i64 m,.bool false]),(13,.int .i64 m),(14,.bool false),(3,.int .i64 m)] rfl ⟨p0,p1,p2,p3,p4,p5,p6,p7,p8,p9,p10,trivial⟩
    have HKy:=k8 (HK0.out.trans (jd hB))
    have HTd:=k8 (HTd.out.below hB)
    have hx0:=jb hB HX0.out
    have hxl:=k9 y _ hx0
    clear hB hF p0 p1 p2 p3 p4 p5 p6 p7 p8 p9 p10
    subst hx
    simp only [puts,Act.put,we,wg,wi,wj,wk]
    go_wp2_with fail
    clear hx0 hxl
    refine je zi [.is (.pointer (some ⟨vb,0,none⟩)),.is (.pointer (some ⟨w.heap.size,3,none⟩)),.is (.slice (some ⟨xb,xo,none⟩) 1 c0),.is (.pointer (some ⟨xb,xo,none⟩)),.is (.agg #[.int .i64 e0.kind,.int .u64 e0.num,.string e0.name,.slice e0a e0.args.length e0c])] (by kernel_rfl) 5 (by decide) (by kernel_rfl) _ rfl ?_ ?_
    ·refine ⟨?_,?_,?_,?_,?_,trivial⟩
     ·refine jc rfl rfl rfl fun x y2 hB hF hD=>?_
      have e1:slot x 1=.pointer (some ⟨cb,0,none⟩):=hF.at 1 rfl
      have hc:y2.cell? ⟨cb,0,none⟩=some (.pointer (some ⟨vb,0,none⟩)):=(HKy.out.trans (jd hB)).cell HI.out.var (by simpa using HCtb.out)
      clear hB hF
      simp only [execOp,ja,e1]
      first|rfl|(go_simp;try rfl)
     ·refine jc rfl rfl rfl fun x y2 hB hF hD=>?_
      have e2:slot x 2=.pointer (some ⟨w.heap.size,0,none⟩):=hF.at 2 rfl
      clear hB hF
      simp only [execOp,ja,e2]
      first|rfl|(go_simp;try rfl)
     ·refine jc rfl rfl rfl fun x y2 hB hF hD=>?_
      obtain ⟨d0,-⟩:=hD
      have e21:slot x 21=.pointer (some ⟨w.heap.size,3,none⟩):=d0 rfl
      have hc:y2.cell? ⟨w.heap.size,3,none⟩=some (.slice (some ⟨xb,xo,none⟩) 1 c0):=(HKy.out.trans (jd hB)).cell HX3.out (by simpa using HXtb.out)
      clear hB hF
      simp only [execOp,ja,e21]
      first|rfl|(go_simp;try rfl)
     ·refine jc rfl rfl rfl fun x y2 hB hF hD=>?_
      obtain ⟨d0,-⟩:=hD
      have e22:slot x 22=.slice (some ⟨xb,xo,none⟩) 1 c0:=d0 rfl
      clear hB hF
      simp only [execOp,ja,e22]
      first|rfl|(go_simp;try rfl)
     ·refine jc rfl rfl rfl fun x y2 hB hF hD=>?_
      obtain ⟨d0,-⟩:=hD
      have e23:slot x 23=.pointer (some ⟨xb,xo,none⟩):=d0 rfl
      have h0:y2.cell? ⟨xb,xo,none⟩=some (.int .i64 e0.kind):=(HKy.out.trans (jd hB)).cell He0.out.1 (by simpa using HEtb.out)
      have h1:y2.cell? ⟨xb,xo+1,none⟩=some (.int .u64 e0.num):=(HKy.out.trans (jd hB)).cell He0.out.2.1 (by simpa using HEtb.out)
      have h2:y2.cell? ⟨xb,xo+2,none⟩=some (.string e0.name):=(HKy.out.trans (jd hB)).cell He0.out.2.2.1 (by simpa using HEtb.out)
      have h3:y2.cell? ⟨xb,xo+3,none⟩=some (.slice e0a e0.args.length e0c):=(HKy.out.trans (jd hB)).cell He0.out.2.2.2 (by simpa using HEtb.out)
      clear hB hF
      simp only [execOp,ja,e23]
      first|rfl|(go_simp;try rfl)
    ·intro x y2 hB hF hP
     obtain ⟨p0,p1,p2,p3,p4,-⟩:=hP
     have hx:=jj hF [(20,.pointer (some ⟨vb,0,none⟩)),(21,.pointer (some ⟨w.heap.size,3,none⟩)),(22,.slice (some ⟨xb,xo,none⟩) 1 c0),(23,.pointer (some ⟨xb,xo,none⟩)),(24,.agg #[.int .i64 e0.kind,.int .u64 e0.num,.string e0.name,.slice e0a e0.args.length e0c])] rfl ⟨p0,p1,p2,p3,p4,trivial⟩
     have HKy2:=k8 (HKy.out.trans (jd hB))
     have HTy:=k8 (HTd.out.below hB)
     clear hB hF p0 p1 p2 p3 p4
     subst hx
     simp only [puts,Act.put,we,wg,wi,wj,wk]
     go_wp2_with fail
     refine (HBr_e0.out y2 HKy2.out HTy.out).mono ?_
     rintro e' w2 ⟨hK2,hT2,he2⟩
     have HK2:=k8 (HKy2.out.trans hK2)
     have HTd:=k8 hT2
     clear hK2 hT2 HKy2 HTy
     cases B with
     | true=>
      simp only [if_true] at he2
      subst he2
      go_wp2
      obtain ⟨q1,q2⟩:=HFin.out w2 HK2.out HTd.out
      exact ⟨rfl,q1,rfl⟩
     | false=>
      simp only [Bool.false_eq_true,if_false] at he2
      subst he2
      have hx0:=HK2.out.cell HX0.out (by simpa using HXtb.out)
      have hxl:=k9 w2 _ hx0
      go_wp2
      go_end0
      obtain ⟨q1,q2⟩:=HFin.out w2 HK2.out HTd.out
      exact ⟨q1,rfl,q2⟩
  | true=>
   go_enter Tryz.func75,Tryz.ntmps75
   go_wp2_with fail
   refine je zi [.is (.pointer (some ⟨vb,0,none⟩)),.is (.pointer (some ⟨vb,0,none⟩)),.is (.pointer (some ⟨vb,8,none⟩)),.is (.map (some pb)),.is (.pointer (some ⟨w.heap.size,1,none⟩)),.is (.string s),.is (.tuple #[.int .i64 m,.bool true]),.is (.tuple #[.int .i64 m,.bool true]),.is (.int .i64 m),.is (.bool true),.is (.int .i64 m)] (by kernel_rfl) 11 (by decide) (by kernel_rfl) _ rfl ?_ ?_
   ·refine ⟨?_,?_,?_,?_,?_,?_,?_,?_,?_,?_,?_,trivial⟩
    ·refine jc rfl rfl rfl fun x y hB hF hD=>?_
     have e1:slot x 1=.pointer (some ⟨cb,0,none⟩):=hF.at 1 rfl
     have hc:y.cell? ⟨cb,0,none⟩=some (.pointer (some ⟨vb,0,none⟩)):=jb hB HI.out.var
     clear hB hF
     simp only [execOp,ja,e1]
     first|rfl|(go_simp;try rfl)
    ·refine jc rfl rfl rfl fun x y hB hF hD=>?_
     obtain ⟨d0,-⟩:=hD
     have e6:slot x 6=.pointer (some ⟨vb,0,none⟩):=d0 rfl
     clear hB hF
     simp only [execOp,ja,e6]
     first|rfl|(go_simp;try rfl)
    ·refine jc rfl rfl rfl fun x y hB hF hD=>?_
     obtain ⟨d0,-⟩:=hD
     have e7:slot x 7=.pointer (some ⟨vb,0,none⟩):=d0 rfl
     clear hB hF
     simp only [execOp,ja,e7]
     first|rfl|(go_simp;try rfl)
    ·refine jc rfl rfl rfl fun x y hB hF hD=>?_
     obtain ⟨d0,-⟩:=hD
     have e8:slot x 8=.pointer (some ⟨vb,8,none⟩):=d0 rfl
     have hc:y.cell? ⟨vb,8,none⟩=some (.map (some pb)):=jb hB HV8.out
     clear hB hF
     simp only [execOp,ja,e8]
     first|rfl|(go_simp;try rfl)
    ·refine jc rfl rfl rfl fun x y hB hF hD=>?_
     have e2:slot x 2=.pointer (some ⟨w.heap.size,0,none⟩):=hF.at 2 rfl
     clear hB hF
     simp only [execOp,ja,e2]
     first|rfl|(go_simp;try rfl)
    ·refine jc rfl rfl rfl fun x y hB hF hD=>?_
     obtain ⟨d0,-⟩:=hD
     have e10:slot x 10=.pointer (some ⟨w.heap.size,1,none⟩):=d0 rfl
     have hc:y.cell? ⟨w.heap.size,1,none⟩=some (.string s):=jb hB HX1.out
     clear hB hF
     simp only [execOp,ja,e10]
     first|rfl|(go_simp;try rfl)
    ·refine jc rfl rfl rfl fun x y hB hF hD=>?_
     obtain ⟨d0,d1,-⟩:=hD
     have e1:slot x 9=.map (some pb):=d0 rfl
     have e2:slot x 11=.string s:=d1 rfl
     have hrun:=xr keyS (j5.below HI.out.view.pointers hB) Tryz.underlying124 (zeroI y) s true
     rw [if_pos rfl,ptr_get,ptr_is,HM.out,HO.out] at hrun
     clear hB hF
     simp only [execOp,ja,e1,e2]
     simp [hrun,Result.andThen]
    ·refine jc rfl rfl rfl fun x y hB hF hD=>?_
     obtain ⟨d0,-⟩:=hD
     have e12:slot x 12=.tuple #[.int .i64 m,.bool true]:=d0 rfl
     clear hB hF
     simp only [execOp,ja,e12]
     first|rfl|(go_simp;try rfl)
    ·refine jc rfl rfl rfl fun x y hB hF hD=>?_
     obtain ⟨d0,-⟩:=hD
     have e5:slot x 5=.tuple #[.int .i64 m,.bool true]:=d0 rfl
     clear hB hF
     simp only [execOp,ja,e5]
     first|rfl|(go_simp;try rfl)
    ·refine jc rfl rfl rfl fun x y hB hF hD=>?_
     obtain ⟨d0,-⟩:=hD
     have e5:slot x 5=.tuple #[.int .i64 m,.bool true]:=d0 rfl
     clear hB hF
     simp only [execOp,ja,e5]
     first|rfl|(go_simp;try rfl)
    ·refine jc rfl rfl rfl fun x y hB hF hD=>?_
     obtain ⟨d0,-⟩:=hD
     have e13:slot x 13=.int .i64 m:=d0 rfl
     clear hB hF
     simp only [execOp,ja,e13]
     first|rfl|(go_simp;try rfl)
   ·intro x y hB hF hP
    obtain ⟨p0,p1,p2,p3,p4,p5,p6,p7,p8,p9,p10,-⟩:=hP
    have hx:=jj hF [(6,.pointer (some ⟨vb,0,none⟩)),(7,.pointer (some ⟨vb,0,none⟩)),(8,.pointer (some ⟨vb,8,none⟩)),(9,.map (some pb)),(10,.pointer (some ⟨w.heap.size,1,none⟩)),(11,.string s),(12,.tuple #[.int .i64 m,.bool true]),(5,.tuple #[.int .i64 m,.bool true]),(13,.int .i64 m),(14,.bool true),(3,.int .i64 m)] rfl ⟨p0,p1,p2,p3,p4,p5,p6,p7,p8,p9,p10,trivial⟩
    have HKy:=k8 (HK0.out.trans (jd hB))
    have HTd:=k8 (HTd.out.below hB)
    have hx0:=jb hB HX0.out
    have hxl:=k9 y _ hx0
    clear hB hF p0 p1 p2 p3 p4 p5 p6 p7 p8 p9 p10
    subst hx
    simp only [puts,Act.put,we,wg,wi,wj,wk]
    go_wp2_with fail
    clear hx0 hxl
    refine je zi [.is (.pointer (some ⟨vb,0,none⟩)),.is (.pointer (some ⟨w.heap.size,3,none⟩)),.is (.slice (some ⟨xb,xo,none⟩) 1 c0),.is (.pointer (some ⟨xb,xo,none⟩)),.is (.agg #[.int .i64 e0.kind,.int .u64 e0.num,.string e0.name,.slice e0a e0.args.length e0c])] (by kernel_rfl) 5 (by decide) (by kernel_rfl) _ rfl ?_ ?_
    ·refine ⟨?_,?_,?_,?_,?_,trivial⟩
     ·refine jc rfl rfl rfl fun x y2 hB hF hD=>?_
      have e1:slot x 1=.pointer (some ⟨cb,0,none⟩):=hF.at 1 rfl
      have hc:y2.cell? ⟨cb,0,none⟩=some (.pointer (some ⟨vb,0,none⟩)):=(HKy.out.trans (jd hB)).cell HI.out.var (by simpa using HCtb.out)
      clear hB hF
      simp only [execOp,ja,e1]
      first|rfl|(go_simp;try rfl)
     ·refine jc rfl rfl rfl fun x y2 hB hF hD=>?_
      have e2:slot x 2=.pointer (some ⟨w.heap.size,0,none⟩):=hF.at 2 rfl
      clear hB hF
      simp only [execOp,ja,e2]
      first|rfl|(go_simp;try rfl)
     ·refine jc rfl rfl rfl fun x y2 hB hF hD=>?_
      obtain ⟨d0,-⟩:=hD
      have e21:slot x 21=.pointer (some ⟨w.heap.size,3,none⟩):=d0 rfl
      have hc:y2.cell? ⟨w.heap.size,3,none⟩=some (.slice (some ⟨xb,xo,none⟩) 1 c0):=(HKy.out.trans (jd hB)).cell HX3.out (by simpa using HXtb.out)
      clear hB hF
      simp only [execOp,ja,e21]
      first|rfl|(go_simp;try rfl)
     ·refine jc rfl rfl rfl fun x y2 hB hF hD=>?_
      obtain ⟨d0,-⟩:=hD
      have e22:slot x 22=.slice (some ⟨xb,xo,none⟩) 1 c0:=d0 rfl
      clear hB hF
      simp only [execOp,ja,e22]
      first|rfl|(go_simp;try rfl)
     ·refine jc rfl rfl rfl fun x y2 hB hF hD=>?_
      obtain ⟨d0,-⟩:=hD
      have e23:slot x 23=.pointer (some ⟨xb,xo,none⟩):=d0 rfl
      have h0:y2.cell? ⟨xb,xo,none⟩=some (.int .i64 e0.kind):=(HKy.out.trans (jd hB)).cell He0.out.1 (by simpa using HEtb.out)
      have h1:y2.cell? ⟨xb,xo+1,none⟩=some (.int .u64 e0.num):=(HKy.out.trans (jd hB)).cell He0.out.2.1 (by simpa using HEtb.out)
      have h2:y2.cell? ⟨xb,xo+2,none⟩=some (.string e0.name):=(HKy.out.trans (jd hB)).cell He0.out.2.2.1 (by simpa using HEtb.out)
      have h3:y2.cell? ⟨xb,xo+3,none⟩=some (.slice e0a e0.args.length e0c):=(HKy.out.trans (jd hB)).cell He0.out.2.2.2 (by simpa using HEtb.out)
      clear hB hF
      simp only [execOp,ja,e23]
      first|rfl|(go_simp;try rfl)
    ·intro x y2 hB hF hP
     obtain ⟨p0,p1,p2,p3,p4,-⟩:=hP
     have hx:=jj hF [(20,.pointer (some ⟨vb,0,none⟩)),(21,.pointer (some ⟨w.heap.size,3,none⟩)),(22,.slice (some ⟨xb,xo,none⟩) 1 c0),(23,.pointer (some ⟨xb,xo,none⟩)),(24,.agg #[.int .i64 e0.kind,.int .u64 e0.num,.string e0.name,.slice e0a e0.args.length e0c])] rfl ⟨p0,p1,p2,p3,p4,trivial⟩
     have HKy2:=k8 (HKy.out.trans (jd hB))
     have HTy:=k8 (HTd.out.below hB)
     clear hB hF p0 p1 p2 p3 p4
     subst hx
     simp only [puts,Act.put,we,wg,wi,wj,wk]
     go_wp2_with fail
     refine (HBr_e0.out y2 HKy2.out HTy.out).mono ?_
     rintro e' w2 ⟨hK2,hT2,he2⟩
     have HK2:=k8 (HKy2.out.trans hK2)
     have HTd:=k8 hT2
     clear hK2 hT2 HKy2 HTy
     cases B with
     | true=>
      simp only [if_true] at he2
      subst he2
      go_wp2
      obtain ⟨q1,q2⟩:=HFin.out w2 HK2.out HTd.out
      exact ⟨rfl,q1,rfl⟩
     | false=>
      simp only [Bool.false_eq_true,if_false] at he2
      subst he2
      have hx0:=HK2.out.cell HX0.out (by simpa using HXtb.out)
      have hxl:=k9 w2 _ hx0
      go_wp2
      go_end0
      obtain ⟨q1,q2⟩:=HFin.out w2 HK2.out HTd.out
      exact ⟨q1,rfl,q2⟩
 have t2:(k == 2)=false:=by simpa using h2
 by_cases h1:k=1
 ·subst h1
  obtain ⟨e0,e1,rfl⟩:=len2 (xs:=xs) (by
   have h1:=har.2.2.1;have h2:=har.2.2.2.1
   simp only at h1 h2
   rw [show (js 1).least=2 from rfl] at h1;rw [show (js 1).most=2 from rfl] at h2;omega)
  obtain ⟨_,_,he,hlc,hll,hr⟩:=hsl
  simp only [Value.slice.injEq] at he
  obtain ⟨rfl,-,rfl⟩:=he
  obtain ⟨xb,xo,rfl,hro⟩:=hr (by simp)
  obtain ⟨e0a,e0c,hc0,hXI,hxlt⟩:=ye (hro 0 e0 rfl) hBW
  obtain ⟨e1a,e1c,hc1,hXI1,-⟩:=ye (hro 1 e1 rfl) hBW
  rw [Nat.zero_mul,Nat.add_zero] at hc0
  have He0:=k8 hc0
  have He1:=k8 hc1
  have HEtb:=k8 (show xb≠tb by omega)
  have HX3:=k8 hx3
  have HBr_e0:=k8 (HBr.out e0 _ hXI (fun z hz=>(hde z (jq.2 ⟨e0,by simp,hz⟩)).2))
  have HBr_e1:=k8 (HBr.out e1 _ hXI1 (fun z hz=>(hde z (jq.2 ⟨e1,by simp,hz⟩)).2))
  clear hc0 hc1 hr hro hlc hll hxlt hXI hXI1
  simp only [List.length_cons,List.length_nil,Nat.zero_add] at *
  have hev:=keptEv_put p i f (hid p i f) s n e0 e1 t e
  rw [hev,ho]
  clear hev hm ho hde har hx0 hx1 hx3 HBr HHd hBW h2 t2
  generalize hid p i f e0=B at *
  generalize hid p i f e1=B1 at *
  cases o with
  | false=>
   rw [if_neg (by decide),Bool.and_true]
   go_enter Tryz.func75,Tryz.ntmps75
   go_wp2_with fail
   refine je zi [.is (.pointer (some ⟨vb,0,none⟩)),.is (.pointer (some ⟨vb,0,none⟩)),.is (.pointer (some ⟨vb,8,none⟩)),.is (.map (some pb)),.is (.pointer (some ⟨w.heap.size,1,none⟩)),.is (.string s),.is (.tuple #[.int .i64 m,.bool false]),.is (.tuple #[.int .i64 m,.bool false]),.is (.int .i64 m),.is (.bool false),.is (.int .i64 m)] (by kernel_rfl) 11 (by decide) (by kernel_rfl) _ rfl ?_ ?_
   ·refine ⟨?_,?_,?_,?_,?_,?_,?_,?_,?_,?_,?_,trivial⟩
    ·refine jc rfl rfl rfl fun x y hB hF hD=>?_
     have e1:slot x 1=.pointer (some ⟨cb,0,none⟩):=hF.at 1 rfl
     have hc:y.cell? ⟨cb,0,none⟩=some (.pointer (some ⟨vb,0,none⟩)):=jb hB HI.out.var
     clear hB hF
     simp only [execOp,ja,e1]
     first|rfl|(go_simp;try rfl)
    ·refine jc rfl rfl rfl fun x y hB hF hD=>?_
     obtain ⟨d0,-⟩:=hD
     have e6:slot x 6=.pointer (some ⟨vb,0,none⟩):=d0 rfl
     clear hB hF
     simp only [execOp,ja,e6]
     first|rfl|(go_simp;try rfl)
    ·refine jc rfl rfl rfl fun x y hB hF hD=>?_
     obtain ⟨d0,-⟩:=hD
     have e7:slot x 7=.pointer (some ⟨vb,0,none⟩):=d0 rfl
     clear hB hF
     simp only [execOp,ja,e7]
     first|rfl|(go_simp;try rfl)
    ·refine jc rfl rfl rfl fun x y hB hF hD=>?_
     obtain ⟨d0,-⟩:=hD
     have e8:slot x 8=.pointer (some ⟨vb,8,none⟩):=d0 rfl
     have hc:y.cell? ⟨vb,8,none⟩=some (.map (some pb)):=jb hB HV8.out
     clear hB hF
     simp only [execOp,ja,e8]
     first|rfl|(go_simp;try rfl)
    ·refine jc rfl rfl rfl fun x y hB hF hD=>?_
     have e2:slot x 2=.pointer (some ⟨w.heap.size,0,none⟩):=hF.at 2 rfl
     clear hB hF
     simp only [execOp,ja,e2]
     first|rfl|(go_simp;try rfl)
    ·refine jc rfl rfl rfl fun x y hB hF hD=>?_
     obtain ⟨d0,-⟩:=hD
     have e10:slot x 10=.pointer (some ⟨w.heap.size,1,none⟩):=d0 rfl
     have hc:y.cell? ⟨w.heap.size,1,none⟩=some (.string s):=jb hB HX1.out
     clear hB hF
     simp only [execOp,ja,e10]
     first|rfl|(go_simp;try rfl)
    ·refine jc rfl rfl rfl fun x y hB hF hD=>?_
     obtain ⟨d0,d1,-⟩:=hD
     have e1:slot x 9=.map (some pb):=d0 rfl
     have e2:slot x 11=.string s:=d1 rfl
     have hrun:=xr keyS (j5.below HI.out.view.pointers hB) Tryz.underlying124 (zeroI y) s true
     rw [if_pos rfl,ptr_get,ptr_is,HM.out,HO.out] at hrun
     clear hB hF
     simp only [execOp,ja,e1,e2]
     simp [hrun,Result.andThen]
    ·refine jc rfl rfl rfl fun x y hB hF hD=>?_
     obtain ⟨d0,-⟩:=hD
     have e12:slot x 12=.tuple #[.int .i64 m,.bool false]:=d0 rfl
     clear hB hF
     simp only [execOp,ja,e12]
     first|rfl|(go_simp;try rfl)
    ·refine jc rfl rfl rfl fun x y hB hF hD=>?_
     obtain ⟨d0,-⟩:=hD
     have e5:slot x 5=.tuple #[.int .i64 m,.bool false]:=d0 rfl
     clear hB hF
     simp only [execOp,ja,e5]
     first|rfl|(go_simp;try rfl)
    ·refine jc rfl rfl rfl fun x y hB hF hD=>?_
     obtain ⟨d0,-⟩:=hD
     have e5:slot x 5=.tuple #[.int .i64 m,.bool false]:=d0 rfl
     clear hB hF
     simp only [execOp,ja,e5]
     first|rfl|(go_simp;try rfl)
    ·refine jc rfl rfl rfl fun x y hB hF hD=>?_
     obtain ⟨d0,-⟩:=hD
     have e13:slot x 13=.int .i64 m:=d0 rfl
     clear hB hF
     simp only [execOp,ja,e13]
     first|rfl|(go_simp;try rfl)
   ·intro x y hB hF hP
    obtain ⟨p0,p1,p2,p3,p4,p5,p6,p7,p8,p9,p10,-⟩:=hP
    have hx:=jj hF [(6,.pointer (some ⟨vb,0,none⟩)),(7,.pointer (some ⟨vb,0,none⟩)),(8,.pointer (some ⟨vb,8,none⟩)),(9,.map (some pb)),(10,.pointer (some ⟨w.heap.size,1,none⟩)),(11,.string s),(12,.tuple #[.int .i64 m,.bool false]),(5,.tuple #[.int .i64 m,.bool false]),(13,.int .i64 m),(14,.bool false),(3,.int .i64 m)] rfl ⟨p0,p1,p2,p3,p4,p5,p6,p7,p8,p9,p10,trivial⟩
    have HKy:=k8 (HK0.out.trans (jd hB))
    have HTd:=k8 (HTd.out.below hB)
    have hx0:=jb hB HX0.out
    have hxl:=k9 y _ hx0
    clear hB hF p0 p1 p2 p3 p4 p5 p6 p7 p8 p9 p10
    subst hx
    simp only [puts,Act.put,we,wg,wi,wj,wk]
    go_wp2_with fail
    clear hx0 hxl
    refine je zi [.is (.pointer (some ⟨vb,0,none⟩)),.is (.pointer (some ⟨w.heap.size,3,none⟩)),.is (.slice (some ⟨xb,xo,none⟩) 2 c0),.is (.pointer (some ⟨xb,xo,none⟩)),.is (.agg #[.int .i64 e0.kind,.int .u64 e0.num,.string e0.name,.slice e0a e0.args.length e0c])] (by kernel_rfl) 5 (by decide) (by kernel_rfl) _ rfl ?_ ?_
    ·refine ⟨?_,?_,?_,?_,?_,trivial⟩
     ·refine jc rfl rfl rfl fun x y2 hB hF hD=>?_
      have e1:slot x 1=.pointer (some ⟨cb,0,none⟩):=hF.at 1 rfl
      have hc:y2.cell? ⟨cb,0,none⟩=some (.pointer (some ⟨vb,0,none⟩)):=(HKy.out.trans (jd hB)).cell HI.out.var (by simpa using HCtb.out)
      clear hB hF
      simp only [execOp,ja,e1]
      first|rfl|(go_simp;try rfl)
     ·refine jc rfl rfl rfl fun x y2 hB hF hD=>?_
      have e2:slot x 2=.pointer (some ⟨w.heap.size,0,none⟩):=hF.at 2 rfl
      clear hB hF
      simp only [execOp,ja,e2]
      first|rfl|(go_simp;try rfl)
     ·refine jc rfl rfl rfl fun x y2 hB hF hD=>?_
      obtain ⟨d0,-⟩:=hD
      have e21:slot x 21=.pointer (some ⟨w.heap.size,3,none⟩):=d0 rfl
      have hc:y2.cell? ⟨w.heap.size,3,none⟩=some (.slice (some ⟨xb,xo,none⟩) 2 c0):=(HKy.out.trans (jd hB)).cell HX3.out (by simpa using HXtb.out)
      clear hB hF
      simp only [execOp,ja,e21]
      first|rfl|(go_simp;try rfl)
     ·refine jc rfl rfl rfl fun x y2 hB hF hD=>?_
      obtain ⟨d0,-⟩:=hD
      have e22:slot x 22=.slice (some ⟨xb,xo,none⟩) 2 c0:=d0 rfl
      clear hB hF
      simp only [execOp,ja,e22]
      first|rfl|(go_simp;try rfl)
     ·refine jc rfl rfl rfl fun x y2 hB hF hD=>?_
      obtain ⟨d0,-⟩:=hD
      have e23:slot x 23=.pointer (some ⟨xb,xo,none⟩):=d0 rfl
      have h0:y2.cell? ⟨xb,xo,none⟩=some (.int .i64 e0.kind):=(HKy.out.trans (jd hB)).cell He0.out.1 (by simpa using HEtb.out)
      have h1:y2.cell? ⟨xb,xo+1,none⟩=some (.int .u64 e0.num):=(HKy.out.trans (jd hB)).cell He0.out.2.1 (by simpa using HEtb.out)
      have h2:y2.cell? ⟨xb,xo+2,none⟩=some (.string e0.name):=(HKy.out.trans (jd hB)).cell He0.out.2.2.1 (by simpa using HEtb.out)
      have h3:y2.cell? ⟨xb,xo+3,none⟩=some (.slice e0a e0.args.length e0c):=(HKy.out.trans (jd hB)).cell He0.out.2.2.2 (by simpa using HEtb.out)
      clear hB hF
      simp only [execOp,ja,e23]
      first|rfl|(go_simp;try rfl)
    ·intro x y2 hB hF hP
     obtain ⟨p0,p1,p2,p3,p4,-⟩:=hP
     have hx:=jj hF [(20,.pointer (some ⟨vb,0,none⟩)),(21,.pointer (some ⟨w.heap.size,3,none⟩)),(22,.slice (some ⟨xb,xo,none⟩) 2 c0),(23,.pointer (some ⟨xb,xo,none⟩)),(24,.agg #[.int .i64 e0.kind,.int .u64 e0.num,.string e0.name,.slice e0a e0.args.length e0c])] rfl ⟨p0,p1,p2,p3,p4,trivial⟩
     have HKy2:=k8 (HKy.out.trans (jd hB))
     have HTy:=k8 (HTd.out.below hB)
     clear hB hF p0 p1 p2 p3 p4
     subst hx
     simp only [puts,Act.put,we,wg,wi,wj,wk]
     go_wp2_with fail
     refine (HBr_e0.out y2 HKy2.out HTy.out).mono ?_
     rintro e' w2 ⟨hK2,hT2,he2⟩
     have HK2:=k8 (HKy2.out.trans hK2)
     have HTd:=k8 hT2
     clear hK2 hT2 HKy2 HTy
     cases B with
     | true=>
      simp only [if_true] at he2
      subst he2
      go_wp2
      obtain ⟨q1,q2⟩:=HFin.out w2 HK2.out HTd.out
      exact ⟨rfl,q1,rfl⟩
     | false=>
      simp only [Bool.false_eq_true,if_false] at he2
      subst he2
      have hx0:=HK2.out.cell HX0.out (by simpa using HXtb.out)
      have hxl:=k9 w2 _ hx0
      go_wp2
      go_end0
      obtain ⟨q1,q2⟩:=HFin.out w2 HK2.out HTd.out
      exact ⟨q1,rfl,q2⟩
  | true=>
   rw [if_pos rfl]
   go_enter Tryz.func75,Tryz.ntmps75
   go_wp2_with fail
   refine je zi [.is (.pointer (some ⟨vb,0,none⟩)),.is (.pointer (some ⟨vb,0,none⟩)),.is (.pointer (some ⟨vb,8,none⟩)),.is (.map (some pb)),.is (.pointer (some ⟨w.heap.size,1,none⟩)),.is (.string s),.is (.tuple #[.int .i64 m,.bool true]),.is (.tuple #[.int .i64 m,.bool true]),.is (.int .i64 m),.is (.bool true),.is (.int .i64 m)] (by kernel_rfl) 11 (by decide) (by kernel_rfl) _ rfl ?_ ?_
   ·refine ⟨?_,?_,?_,?_,?_,?_,?_,?_,?_,?_,?_,trivial⟩
    ·refine jc rfl rfl rfl fun x y hB hF hD=>?_
     have e1:slot x 1=.pointer (some ⟨cb,0,none⟩):=hF.at 1 rfl
     have hc:y.cell? ⟨cb,0,none⟩=some (.pointer (some ⟨vb,0,none⟩)):=jb hB HI.out.var
     clear hB hF
     simp only [execOp,ja,e1]
     first|rfl|(go_simp;try rfl)
    ·refine jc rfl rfl rfl fun x y hB hF hD=>?_
     obtain ⟨d0,-⟩:=hD
     have e6:slot x 6=.pointer (some ⟨vb,0,none⟩):=d0 rfl
     clear hB hF
     simp only [execOp,ja,e6]
     first|rfl|(go_simp;try rfl)
    ·refine jc rfl rfl rfl fun x y hB hF hD=>?_
     obtain ⟨d0,-⟩:=hD
     have e7:slot x 7=.pointer (some ⟨vb,0,none⟩):=d0 rfl
     clear hB hF
     simp only [execOp,ja,e7]
     first|rfl|(go_simp;try rfl)
    ·refine jc rfl rfl rfl fun x y hB hF hD=>?_
     obtain ⟨d0,-⟩:=hD
     have e8:slot x 8=.pointer (some ⟨vb,8,none⟩):=d0 rfl
     have hc:y.cell? ⟨vb,8,none⟩=some (.map (some pb)):=jb hB HV8.out
     clear hB hF
     simp only [execOp,ja,e8]
     first|rfl|(go_simp;try rfl)
    ·refine jc rfl rfl rfl fun x y hB hF hD=>?_
     have e2:slot x 2=.pointer (some ⟨w.heap.size,0,none⟩):=hF.at 2 rfl
     clear hB hF
     simp only [execOp,ja,e2]
     first|rfl|(go_simp;try rfl)
    ·refine jc rfl rfl rfl fun x y hB hF hD=>?_
     obtain ⟨d0,-⟩:=hD
     have e10:slot x 10=.pointer (some ⟨w.heap.size,1,none⟩):=d0 rfl
     have hc:y.cell? ⟨w.heap.size,1,none⟩=some (.string s):=jb hB HX1.out
     clear hB hF
     simp only [execOp,ja,e10]
     first|rfl|(go_simp;try rfl)
    ·refine jc rfl rfl rfl fun x y hB hF hD=>?_
     obtain ⟨d0,d1,-⟩:=hD
     have e1:slot x 9=.map (some pb):=d0 rfl
     have e2:slot x 11=.string s:=d1 rfl
     have hrun:=xr keyS (j5.below HI.out.view.pointers hB) Tryz.underlying124 (zeroI y) s true
     rw [if_pos rfl,ptr_get,ptr_is,HM.out,HO.out] at hrun
     clear hB hF
     simp only [execOp,ja,e1,e2]
     simp [hrun,Result.andThen]
    ·refine jc rfl rfl rfl fun x y hB hF hD=>?_
     obtain ⟨d0,-⟩:=hD
     have e12:slot x 12=.tuple #[.int .i64 m,.bool true]:=d0 rfl
     clear hB hF
     simp only [execOp,ja,e12]
     first|rfl|(go_simp;try rfl)
    ·refine jc rfl rfl rfl fun x y hB hF hD=>?_
     obtain ⟨d0,-⟩:=hD
     have e5:slot x 5=.tuple #[.int .i64 m,.bool true]:=d0 rfl
     clear hB hF
     simp only [execOp,ja,e5]
     first|rfl|(go_simp;try rfl)
    ·refine jc rfl rfl rfl fun x y hB hF hD=>?_
     obtain ⟨d0,-⟩:=hD
     have e5:slot x 5=.tuple #[.int .i64 m,.bool true]:=d0 rfl
     clear hB hF
     simp only [execOp,ja,e5]
     first|rfl|(go_simp;try rfl)
    ·refine jc rfl rfl rfl fun x y hB hF hD=>?_
     obtain ⟨d0,-⟩:=hD
     have e13:slot x 13=.int .i64 m:=d0 rfl
     clear hB hF
     simp only [execOp,ja,e13]
     first|rfl|(go_simp;try rfl)
   ·intro x y hB hF hP
    obtain ⟨p0,p1,p2,p3,p4,p5,p6,p7,p8,p9,p10,-⟩:=hP
    have hx:=jj hF [(6,.pointer (some ⟨vb,0,none⟩)),(7,.pointer (some ⟨vb,0,none⟩)),(8,.pointer (some ⟨vb,8,none⟩)),(9,.map (some pb)),(10,.pointer (some ⟨w.heap.size,1,none⟩)),(11,.string s),(12,.tuple #[.int .i64 m,.bool true]),(5,.tuple #[.int .i64 m,.bool true]),(13,.int .i64 m),(14,.bool true),(3,.int .i64 m)] rfl ⟨p0,p1,p2,p3,p4,p5,p6,p7,p8,p9,p10,trivial⟩
    have HKy:=k8 (HK0.out.trans (jd hB))
    have HTd:=k8 (HTd.out.below hB)
    have hx0:=jb hB HX0.out
    have hxl:=k9 y _ hx0
    clear hB hF p0 p1 p2 p3 p4 p5 p6 p7 p8 p9 p10
    subst hx
    simp only [puts,Act.put,we,wg,wi,wj,wk]
    go_wp2_with fail
    clear hx0 hxl
    refine je zi [.is (.pointer (some ⟨vb,0,none⟩)),.is (.pointer (some ⟨w.heap.size,3,none⟩)),.is (.slice (some ⟨xb,xo,none⟩) 2 c0),.is (.pointer (some ⟨xb,xo,none⟩)),.is (.agg #[.int .i64 e0.kind,.int .u64 e0.num,.string e0.name,.slice e0a e0.args.length e0c])] (by kernel_rfl) 5 (by decide) (by kernel_rfl) _ rfl ?_ ?_
    ·refine ⟨?_,?_,?_,?_,?_,trivial⟩
     ·refine jc rfl rfl rfl fun x y2 hB hF hD=>?_
      have e1:slot x 1=.pointer (some ⟨cb,0,none⟩):=hF.at 1 rfl
      have hc:y2.cell? ⟨cb,0,none⟩=some (.pointer (some ⟨vb,0,none⟩)):=(HKy.out.trans (jd hB)).cell HI.out.var (by simpa using HCtb.out)
      clear hB hF
      simp only [execOp,ja,e1]
      first|rfl|(go_simp;try rfl)
     ·refine jc rfl rfl rfl fun x y2 hB hF hD=>?_
      have e2:slot x 2=.pointer (some ⟨w.heap.size,0,none⟩):=hF.at 2 rfl
      clear hB hF
      simp only [execOp,ja,e2]
      first|rfl|(go_simp;try rfl)
     ·refine jc rfl rfl rfl fun x y2 hB hF hD=>?_
      obtain ⟨d0,-⟩:=hD
      have e21:slot x 21=.pointer (some ⟨w.heap.size,3,none⟩):=d0 rfl
      have hc:y2.cell? ⟨w.heap.size,3,none⟩=some (.slice (some ⟨xb,xo,none⟩) 2 c0):=(HKy.out.trans (jd hB)).cell HX3.out (by simpa using HXtb.out)
      clear hB hF
      simp only [execOp,ja,e21]
      first|rfl|(go_simp;try rfl)
     ·refine jc rfl rfl rfl fun x y2 hB hF hD=>?_
      obtain ⟨d0,-⟩:=hD
      have e22:slot x 22=.slice (some ⟨xb,xo,none⟩) 2 c0:=d0 rfl
      clear hB hF
      simp only [execOp,ja,e22]
      first|rfl|(go_simp;try rfl)
     ·refine jc rfl rfl rfl fun x y2 hB hF hD=>?_
      obtain ⟨d0,-⟩:=hD
      have e23:slot x 23=.pointer (some ⟨xb,xo,none⟩):=d0 rfl
      have h0:y2.cell? ⟨xb,xo,none⟩=some (.int .i64 e0.kind):=(HKy.out.trans (jd hB)).cell He0.out.1 (by simpa using HEtb.out)
      have h1:y2.cell? ⟨xb,xo+1,none⟩=some (.int .u64 e0.num):=(HKy.out.trans (jd hB)).cell He0.out.2.1 (by simpa using HEtb.out)
      have h2:y2.cell? ⟨xb,xo+2,none⟩=some (.string e0.name):=(HKy.out.trans (jd hB)).cell He0.out.2.2.1 (by simpa using HEtb.out)
      have h3:y2.cell? ⟨xb,xo+3,none⟩=some (.slice e0a e0.args.length e0c):=(HKy.out.trans (jd hB)).cell He0.out.2.2.2 (by simpa using HEtb.out)
      clear hB hF
      simp only [execOp,ja,e23]
      first|rfl|(go_simp;try rfl)
    ·intro x y2 hB hF hP
     obtain ⟨p0,p1,p2,p3,p4,-⟩:=hP
     have hx:=jj hF [(20,.pointer (some ⟨vb,0,none⟩)),(21,.pointer (some ⟨w.heap.size,3,none⟩)),(22,.slice (some ⟨xb,xo,none⟩) 2 c0),(23,.pointer (some ⟨xb,xo,none⟩)),(24,.agg #[.int .i64 e0.kind,.int .u64 e0.num,.string e0.name,.slice e0a e0.args.length e0c])] rfl ⟨p0,p1,p2,p3,p4,trivial⟩
     have HKy2:=k8 (HKy.out.trans (jd hB))
     have HTy:=k8 (HTd.out.below hB)
     clear hB hF p0 p1 p2 p3 p4
     subst hx
     simp only [puts,Act.put,we,wg,wi,wj,wk]
     go_wp2_with fail
     refine (HBr_e0.out y2 HKy2.out HTy.out).mono ?_
     rintro e' w2 ⟨hK2,hT2,he2⟩
     have HK2:=k8 (HKy2.out.trans hK2)
     have HTd:=k8 hT2
     clear hK2 hT2 HKy2 HTy
     cases B with
     | true=>
      simp only [if_true] at he2
      subst he2
      go_wp2
      obtain ⟨q1,q2⟩:=HFin.out w2 HK2.out HTd.out
      exact ⟨rfl,q1,rfl⟩
     | false=>
      simp only [Bool.false_eq_true,if_false] at he2
      subst he2
      have hx0:=HK2.out.cell HX0.out (by simpa using HXtb.out)
      have hxl:=k9 w2 _ hx0
      go_wp2_with fail
      clear hx0 hxl
      refine je zi [.is (.pointer (some ⟨vb,0,none⟩)),.is (.pointer (some ⟨w.heap.size,3,none⟩)),.is (.slice (some ⟨xb,xo,none⟩) 2 c0),.is (.pointer (some ⟨xb,xo+4,none⟩)),.is (.agg #[.int .i64 e1.kind,.int .u64 e1.num,.string e1.name,.slice e1a e1.args.length e1c])] (by kernel_rfl) 5 (by decide) (by kernel_rfl) _ rfl ?_ ?_
      ·refine ⟨?_,?_,?_,?_,?_,trivial⟩
       ·refine jc rfl rfl rfl fun x y3 hB hF hD=>?_
        have e1:slot x 1=.pointer (some ⟨cb,0,none⟩):=hF.at 1 rfl
        have hc:y3.cell? ⟨cb,0,none⟩=some (.pointer (some ⟨vb,0,none⟩)):=(HK2.out.trans (jd hB)).cell HI.out.var (by simpa using HCtb.out)
        clear hB hF
        simp only [execOp,ja,e1]
        first|rfl|(go_simp;try rfl)
       ·refine jc rfl rfl rfl fun x y3 hB hF hD=>?_
        have e2:slot x 2=.pointer (some ⟨w.heap.size,0,none⟩):=hF.at 2 rfl
        clear hB hF
        simp only [execOp,ja,e2]
        first|rfl|(go_simp;try rfl)
       ·refine jc rfl rfl rfl fun x y3 hB hF hD=>?_
        obtain ⟨d0,-⟩:=hD
        have e33:slot x 33=.pointer (some ⟨w.heap.size,3,none⟩):=d0 rfl
        have hc:y3.cell? ⟨w.heap.size,3,none⟩=some (.slice (some ⟨xb,xo,none⟩) 2 c0):=(HK2.out.trans (jd hB)).cell HX3.out (by simpa using HXtb.out)
        clear hB hF
        simp only [execOp,ja,e33]
        first|rfl|(go_simp;try rfl)
       ·refine jc rfl rfl rfl fun x y3 hB hF hD=>?_
        obtain ⟨d0,-⟩:=hD
        have e34:slot x 34=.slice (some ⟨xb,xo,none⟩) 2 c0:=d0 rfl
        clear hB hF
        simp only [execOp,ja,e34]
        first|rfl|(go_simp;try rfl)
       ·refine jc rfl rfl rfl fun x y3 hB hF hD=>?_
        obtain ⟨d0,-⟩:=hD
        have e35:slot x 35=.pointer (some ⟨xb,xo+4,none⟩):=d0 rfl
        have h0:y3.cell? ⟨xb,xo+4,none⟩=some (.int .i64 e1.kind):=(HK2.out.trans (jd hB)).cell He1.out.1 (by simpa using HEtb.out)
        have h1:y3.cell? ⟨xb,xo+5,none⟩=some (.int .u64 e1.num):=(HK2.out.trans (jd hB)).cell He1.out.2.1 (by simpa using HEtb.out)
        have h2:y3.cell? ⟨xb,xo+6,none⟩=some (.string e1.name):=(HK2.out.trans (jd hB)).cell He1.out.2.2.1 (by simpa using HEtb.out)
        have h3:y3.cell? ⟨xb,xo+7,none⟩=some (.slice e1a e1.args.length e1c):=(HK2.out.trans (jd hB)).cell He1.out.2.2.2 (by simpa using HEtb.out)
        clear hB hF
        simp only [execOp,ja,e35]
        first|rfl|(go_simp;try rfl)
      ·intro x y3 hB hF hP
       obtain ⟨p0,p1,p2,p3,p4,-⟩:=hP
       have hx:=jj hF [(32,.pointer (some ⟨vb,0,none⟩)),(33,.pointer (some ⟨w.heap.size,3,none⟩)),(34,.slice (some ⟨xb,xo,none⟩) 2 c0),(35,.pointer (some ⟨xb,xo+4,none⟩)),(36,.agg #[.int .i64 e1.kind,.int .u64 e1.num,.string e1.name,.slice e1a e1.args.length e1c])] rfl ⟨p0,p1,p2,p3,p4,trivial⟩
       have HKy3:=k8 (HK2.out.trans (jd hB))
       have HTy:=k8 (HTd.out.below hB)
       clear hB hF p0 p1 p2 p3 p4
       subst hx
       simp only [puts,Act.put,we,wg,wi,wj,wk]
       go_wp2_with fail
       refine (HBr_e1.out y3 HKy3.out HTy.out).mono ?_
       rintro e' w4 ⟨hK2,hT2,he2⟩
       have HK4:=k8 (HKy3.out.trans hK2)
       have HTd:=k8 hT2
       clear hK2 hT2 HKy3 HTy
       cases B1 with
       | true=>
        simp only [if_true] at he2
        subst he2
        go_wp2
        obtain ⟨q1,q2⟩:=HFin.out w4 HK4.out HTd.out
        exact ⟨rfl,q1,rfl⟩
       | false=>
        simp only [Bool.false_eq_true,if_false] at he2
        subst he2
        go_wp2
        go_end0
        obtain ⟨q1,q2⟩:=HFin.out w4 HK4.out HTd.out
        exact ⟨q1,rfl,q2⟩
 have t1:(k == 1)=false:=by simpa using h1
 by_cases h4:k=4
 ·subst h4
  obtain ⟨e0,rfl⟩:=len1 (xs:=xs) (by
   have h1:=har.2.2.1;have h2:=har.2.2.2.1
   simp only at h1 h2
   rw [show (js 4).least=1 from rfl] at h1;rw [show (js 4).most=1 from rfl] at h2;omega)
  obtain ⟨_,_,he,hlc,hll,hr⟩:=hsl
  simp only [Value.slice.injEq] at he
  obtain ⟨rfl,-,rfl⟩:=he
  obtain ⟨xb,xo,rfl,hro⟩:=hr (by simp)
  obtain ⟨e0a,e0c,hc0,hXI,hxlt⟩:=ye (hro 0 e0 rfl) hBW
  rw [Nat.zero_mul,Nat.add_zero] at hc0
  have He0:=k8 hc0
  have HEtb:=k8 (show xb≠tb by omega)
  have HX3:=k8 hx3
  have HBr_e0:=k8 (HBr.out e0 _ hXI (fun z hz=>(hde z (jq.2 ⟨e0,by simp,hz⟩)).2))
  clear hc0 hr hro hlc hll hxlt
  simp only [List.length_cons,List.length_nil,Nat.zero_add] at *
  have HH:=k8 (HHd.out e0 _ hXI (fun z hz=>(hde z (jq.2 ⟨e0,by simp,hz⟩)).2))
  have hhd:q7 (jt p) (secS p i f) (resS p i) e0=hid p i f e0:=rfl
  rw [hhd] at HH
  have hev:=keptEv_ret p i f (hid p i f) s n e0 t e
  rw [hev]
  clear hhd hev hm ho hde har hx0 hx1 hx3 HBr HHd hBW h2 t2 h1 t1
  generalize hid p i f e0=B at *
  cases hout:f.out with
  | true=>
   rw [hout] at HV4
   rw [Bool.not_true,Bool.false_or]
   go_enter Tryz.func75,Tryz.ntmps75
   go_wp2_with fail
   refine je zi [.is (.pointer (some ⟨vb,0,none⟩)),.is (.pointer (some ⟨vb,0,none⟩)),.is (.pointer (some ⟨vb,8,none⟩)),.is (.map (some pb)),.is (.pointer (some ⟨w.heap.size,1,none⟩)),.is (.string s),.is (.tuple #[.int .i64 m,.bool o]),.is (.tuple #[.int .i64 m,.bool o]),.is (.int .i64 m),.is (.bool o),.is (.int .i64 m)] (by kernel_rfl) 11 (by decide) (by kernel_rfl) _ rfl ?_ ?_
   ·refine ⟨?_,?_,?_,?_,?_,?_,?_,?_,?_,?_,?_,trivial⟩
    ·refine jc rfl rfl rfl fun x y hB hF hD=>?_
     have e1:slot x 1=.pointer (some ⟨cb,0,none⟩):=hF.at 1 rfl
     have hc:y.cell? ⟨cb,0,none⟩=some (.pointer (some ⟨vb,0,none⟩)):=jb hB HI.out.var
     clear hB hF
     simp only [execOp,ja,e1]
     first|rfl|(go_simp;try rfl)
    ·refine jc rfl rfl rfl fun x y hB hF hD=>?_
     obtain ⟨d0,-⟩:=hD
     have e6:slot x 6=.pointer (some ⟨vb,0,none⟩):=d0 rfl
     clear hB hF
     simp only [execOp,ja,e6]
     first|rfl|(go_simp;try rfl)
    ·refine jc rfl rfl rfl fun x y hB hF hD=>?_
     obtain ⟨d0,-⟩:=hD
     have e7:slot x 7=.pointer (some ⟨vb,0,none⟩):=d0 rfl
     clear hB hF
     simp only [execOp,ja,e7]
     first|rfl|(go_simp;try rfl)
    ·refine jc rfl rfl rfl fun x y hB hF hD=>?_
     obtain ⟨d0,-⟩:=hD
     have e8:slot x 8=.pointer (some ⟨vb,8,none⟩):=d0 rfl
     have hc:y.cell? ⟨vb,8,none⟩=some (.map (some pb)):=jb hB HV8.out
     clear hB hF
     simp only [execOp,ja,e8]
     first|rfl|(go_simp;try rfl)
    ·refine jc rfl rfl rfl fun x y hB hF hD=>?_
     have e2:slot x 2=.pointer (some ⟨w.heap.size,0,none⟩):=hF.at 2 rfl
     clear hB hF
     simp only [execOp,ja,e2]
     first|rfl|(go_simp;try rfl)
    ·refine jc rfl rfl rfl fun x y hB hF hD=>?_
     obtain ⟨d0,-⟩:=hD
     have e10:slot x 10=.pointer (some ⟨w.heap.size,1,none⟩):=d0 rfl
     have hc:y.cell? ⟨w.heap.size,1,none⟩=some (.string s):=jb hB HX1.out
     clear hB hF
     simp only [execOp,ja,e10]
     first|rfl|(go_simp;try rfl)
    ·refine jc rfl rfl rfl fun x y hB hF hD=>?_
     obtain ⟨d0,d1,-⟩:=hD
     have e1:slot x 9=.map (some pb):=d0 rfl
     have e2:slot x 11=.string s:=d1 rfl
     have hrun:=xr keyS (j5.below HI.out.view.pointers hB) Tryz.underlying124 (zeroI y) s true
     rw [if_pos rfl,ptr_get,ptr_is,HM.out,HO.out] at hrun
     clear hB hF
     simp only [execOp,ja,e1,e2]
     simp [hrun,Result.andThen]
    ·refine jc rfl rfl rfl fun x y hB hF hD=>?_
     obtain ⟨d0,-⟩:=hD
     have e12:slot x 12=.tuple #[.int .i64 m,.bool o]:=d0 rfl
     clear hB hF
     simp only [execOp,ja,e12]
     first|rfl|(go_simp;try rfl)
    ·refine jc rfl rfl rfl fun x y hB hF hD=>?_
     obtain ⟨d0,-⟩:=hD
     have e5:slot x 5=.tuple #[.int .i64 m,.bool o]:=d0 rfl
     clear hB hF
     simp only [execOp,ja,e5]
     first|rfl|(go_simp;try rfl)
    ·refine jc rfl rfl rfl fun x y hB hF hD=>?_
     obtain ⟨d0,-⟩:=hD
     have e5:slot x 5=.tuple #[.int .i64 m,.bool o]:=d0 rfl
     clear hB hF
     simp only [execOp,ja,e5]
     first|rfl|(go_simp;try rfl)
    ·refine jc rfl rfl rfl fun x y hB hF hD=>?_
     obtain ⟨d0,-⟩:=hD
     have e13:slot x 13=.int .i64 m:=d0 rfl
     clear hB hF
     simp only [execOp,ja,e13]
     first|rfl|(go_simp;try rfl)
   ·intro x y hB hF hP
    obtain ⟨p0,p1,p2,p3,p4,p5,p6,p7,p8,p9,p10,-⟩:=hP
    have hx:=jj hF [(6,.pointer (some ⟨vb,0,none⟩)),(7,.pointer (some ⟨vb,0,none⟩)),(8,.pointer (some ⟨vb,8,none⟩)),(9,.map (some pb)),(10,.pointer (some ⟨w.heap.size,1,none⟩)),(11,.string s),(12,.tuple #[.int .i64 m,.bool o]),(5,.tuple #[.int .i64 m,.bool o]),(13,.int .i64 m),(14,.bool o),(3,.int .i64 m)] rfl ⟨p0,p1,p2,p3,p4,p5,p6,p7,p8,p9,p10,trivial⟩
    have HKy:=k8 (HK0.out.trans (jd hB))
    have HTd:=k8 (HTd.out.below hB)
    have hx0:=jb hB HX0.out
    have hxl:=k9 y _ hx0
    clear hB hF p0 p1 p2 p3 p4 p5 p6 p7 p8 p9 p10
    subst hx
    simp only [puts,Act.put,we,wg,wi,wj,wk]
    go_wp2_with fail
    clear hx0 hxl
    refine zy zi (keptR [tb] (Told p tb) (fun x h=>h)) [.is (.pointer (some ⟨vb,0,none⟩)),.is (.pointer (some ⟨vb,0,none⟩)),.is (.pointer (some ⟨vb,3,none⟩)),.is (.pointer (some ⟨vb,4,none⟩)),.is (.bool true),.is (.bool false),.is (.bool false),.is (.pointer (some ⟨vb,0,none⟩)),.is (.pointer (some ⟨w.heap.size,3,none⟩)),.is (.slice (some ⟨xb,xo,none⟩) 1 c0),.is (.pointer (some ⟨xb,xo,none⟩)),.is (.agg #[.int .i64 e0.kind,.int .u64 e0.num,.string e0.name,.slice e0a e0.args.length e0c]),.is (.bool B),.is (.bool (!B)),.is (.bool (!B))] (by kernel_rfl) 15 (by decide) (by kernel_rfl) _ rfl ?_ ?_
    ·refine ⟨?_,?_,?_,?_,?_,?_,?_,?_,?_,?_,?_,?_,?_,?_,?_,trivial⟩
     ·refine jp rfl rfl rfl fun x y hB hF hD=>?_
      obtain ⟨hK,hC⟩:=hB
      have e1:slot x 1=.pointer (some ⟨cb,0,none⟩):=hF.at 1 rfl
      have hc:y.cell? ⟨cb,0,none⟩=some (.pointer (some ⟨vb,0,none⟩)):=(HKy.out.trans hK).cell HI.out.var (by simpa using HCtb.out)
      clear hK hC hF
      simp only [execOp,ja,e1]
      first|rfl|(go_simp;try rfl)
     ·refine jp rfl rfl rfl fun x y hB hF hD=>?_
      obtain ⟨d0,-⟩:=hD
      obtain ⟨hK,hC⟩:=hB
      have e40:slot x 40=.pointer (some ⟨vb,0,none⟩):=d0 rfl
      clear hK hC hF
      simp only [execOp,ja,e40]
      first|rfl|(go_simp;try rfl)
     ·refine jp rfl rfl rfl fun x y hB hF hD=>?_
      obtain ⟨d0,-⟩:=hD
      obtain ⟨hK,hC⟩:=hB
      have e41:slot x 41=.pointer (some ⟨vb,0,none⟩):=d0 rfl
      clear hK hC hF
      simp only [execOp,ja,e41]
      first|rfl|(go_simp;try rfl)
     ·refine jp rfl rfl rfl fun x y hB hF hD=>?_
      obtain ⟨d0,-⟩:=hD
      obtain ⟨hK,hC⟩:=hB
      have e42:slot x 42=.pointer (some ⟨vb,3,none⟩):=d0 rfl
      clear hK hC hF
      simp only [execOp,ja,e42]
      first|rfl|(go_simp;try rfl)
     ·refine jp rfl rfl rfl fun x y hB hF hD=>?_
      obtain ⟨d0,-⟩:=hD
      obtain ⟨hK,hC⟩:=hB
      have e43:slot x 43=.pointer (some ⟨vb,4,none⟩):=d0 rfl
      have hc:y.cell? ⟨vb,4,none⟩=some (.bool true):=(HKy.out.trans hK).cell HV4.out (by simpa using HVtb.out)
      clear hK hC hF
      simp only [execOp,ja,e43]
      first|rfl|(go_simp;try rfl)
     ·refine jp rfl rfl rfl fun x y hB hF hD=>?_
      obtain ⟨d0,-⟩:=hD
      obtain ⟨hK,hC⟩:=hB
      have e44:slot x 44=.bool true:=d0 rfl
      clear hK hC hF
      simp only [execOp,ja,e44]
      first|rfl|(go_simp;try rfl)
     ·refine jp rfl rfl rfl fun x y hB hF hD=>?_
      obtain ⟨d0,-⟩:=hD
      obtain ⟨hK,hC⟩:=hB
      have e45:slot x 45=.bool false:=d0 rfl
      clear hK hC hF
      simp only [execOp,ja,e45]
      first|rfl|(go_simp;try rfl)
     ·refine jf rfl rfl fun x y hB hF hD=>?_
      obtain ⟨d0,-⟩:=hD
      obtain ⟨hK,hC⟩:=hB
      refine ⟨false,d0 rfl,?_⟩
      rw [if_pos rfl]
      refine zr rfl ?_ rfl
      have e1:slot x 1=.pointer (some ⟨cb,0,none⟩):=hF.at 1 rfl
      have hc:y.cell? ⟨cb,0,none⟩=some (.pointer (some ⟨vb,0,none⟩)):=(HKy.out.trans hK).cell HI.out.var (by simpa using HCtb.out)
      clear hK hC hF
      simp only [execOp,ja,e1]
      first|rfl|(go_simp;try rfl)
     ·refine jf rfl rfl fun x y hB hF hD=>?_
      obtain ⟨d0,-⟩:=hD
      obtain ⟨hK,hC⟩:=hB
      refine ⟨false,d0 rfl,?_⟩
      rw [if_pos rfl]
      refine zr rfl ?_ rfl
      have e2:slot x 2=.pointer (some ⟨w.heap.size,0,none⟩):=hF.at 2 rfl
      clear hK hC hF
      simp only [execOp,ja,e2]
      first|rfl|(go_simp;try rfl)
     ·refine jf rfl rfl fun x y hB hF hD=>?_
      obtain ⟨d0,d1,-⟩:=hD
      obtain ⟨hK,hC⟩:=hB
      refine ⟨false,d1 rfl,?_⟩
      rw [if_pos rfl]
      refine zr rfl ?_ rfl
      have e48:slot x 48=.pointer (some ⟨w.heap.size,3,none⟩):=d0 rfl
      have hc:y.cell? ⟨w.heap.size,3,none⟩=some (.slice (some ⟨xb,xo,none⟩) 1 c0):=(HKy.out.trans hK).cell HX3.out (by simpa using HXtb.out)
      clear hK hC hF
      simp only [execOp,ja,e48]
      first|rfl|(go_simp;try rfl)
     ·refine jf rfl rfl fun x y hB hF hD=>?_
      obtain ⟨d0,d1,-⟩:=hD
      obtain ⟨hK,hC⟩:=hB
      refine ⟨false,d1 rfl,?_⟩
      rw [if_pos rfl]
      refine zr rfl ?_ rfl
      have e49:slot x 49=.slice (some ⟨xb,xo,none⟩) 1 c0:=d0 rfl
      clear hK hC hF
      simp only [execOp,ja,e49]
      first|rfl|(go_simp;try rfl)
     ·refine jf rfl rfl fun x y hB hF hD=>?_
      obtain ⟨d0,d1,-⟩:=hD
      obtain ⟨hK,hC⟩:=hB
      refine ⟨false,d1 rfl,?_⟩
      rw [if_pos rfl]
      refine zr rfl ?_ rfl
      have e50:slot x 50=.pointer (some ⟨xb,xo,none⟩):=d0 rfl
      have h0:y.cell? ⟨xb,xo,none⟩=some (.int .i64 e0.kind):=(HKy.out.trans hK).cell He0.out.1 (by simpa using HEtb.out)
      have h1:y.cell? ⟨xb,xo+1,none⟩=some (.int .u64 e0.num):=(HKy.out.trans hK).cell He0.out.2.1 (by simpa using HEtb.out)
      have h2:y.cell? ⟨xb,xo+2,none⟩=some (.string e0.name):=(HKy.out.trans hK).cell He0.out.2.2.1 (by simpa using HEtb.out)
      have h3:y.cell? ⟨xb,xo+3,none⟩=some (.slice e0a e0.args.length e0c):=(HKy.out.trans hK).cell He0.out.2.2.2 (by simpa using HEtb.out)
      clear hK hC hF
      simp only [execOp,ja,e50]
      first|rfl|(go_simp;try rfl)
     ·refine jf rfl rfl fun x y hB hF hD=>?_
      obtain ⟨d0,d1,d2,-⟩:=hD
      obtain ⟨hK,hC⟩:=hB
      refine ⟨false,d2 rfl,?_⟩
      rw [if_pos rfl]
      refine wpT_call (f:=73) (args:=#[.pointer (some ⟨vb,0,none⟩),.agg #[.int .i64 e0.kind,.int .u64 e0.num,.string e0.name,.slice e0a e0.args.length e0c]]) rfl ?_ ?_
      ·have e47:slot x 47=.pointer (some ⟨vb,0,none⟩):=d0 rfl
       have e51:slot x 51=.agg #[.int .i64 e0.kind,.int .u64 e0.num,.string e0.name,.slice e0a e0.args.length e0c]:=d1 rfl
       have g47:=jh e47
       have g51:=jh e51
       clear hK hC hF e47 e51
       simp only [execOp]
       simp [go_sem,g47,g51]
      ·refine (HH.out y (HKy.out.trans hK) (hC HTd.out)).mono ?_
       rintro e w' ⟨rfl,hk,ht⟩
       exact ⟨⟨hk,fun _=>ht⟩,.inl ⟨_,rfl,rfl⟩⟩
     ·refine jf rfl rfl fun x y hB hF hD=>?_
      obtain ⟨d0,d1,-⟩:=hD
      obtain ⟨hK,hC⟩:=hB
      refine ⟨false,d1 rfl,?_⟩
      rw [if_pos rfl]
      refine zr rfl ?_ rfl
      have e52:slot x 52=.bool B:=d0 rfl
      clear hK hC hF
      simp only [execOp,ja,e52]
      first|rfl|(go_simp;try rfl)
     ·refine jp rfl rfl rfl fun x y hB hF hD=>?_
      obtain ⟨d0,d1,-⟩:=hD
      obtain ⟨hK,hC⟩:=hB
      have e46:slot x 46=.bool false:=d0 rfl
      have e53:slot x 53=.bool (!B):=d1 rfl
      clear hK hC hF
      simp only [execOp,ja,e46,e53]
      first|rfl|(go_simp;try rfl)
    ·intro x y9 hB hF hP
     obtain ⟨p0,p1,p2,p3,p4,p5,p6,p7,p8,p9,p10,p11,p12,p13,p14,-⟩:=hP
     obtain ⟨hK,hC⟩:=hB
     have hx:=jj hF [(40,.pointer (some ⟨vb,0,none⟩)),(41,.pointer (some ⟨vb,0,none⟩)),(42,.pointer (some ⟨vb,3,none⟩)),(43,.pointer (some ⟨vb,4,none⟩)),(44,.bool true),(45,.bool false),(46,.bool false),(47,.pointer (some ⟨vb,0,none⟩)),(48,.pointer (some ⟨w.heap.size,3,none⟩)),(49,.slice (some ⟨xb,xo,none⟩) 1 c0),(50,.pointer (some ⟨xb,xo,none⟩)),(51,.agg #[.int .i64 e0.kind,.int .u64 e0.num,.string e0.name,.slice e0a e0.args.length e0c]),(52,.bool B),(53,.bool (!B)),(54,.bool (!B))] rfl ⟨p0,p1,p2,p3,p4,p5,p6,p7,p8,p9,p10,p11,p12,p13,p14,trivial⟩
     have HK9:=k8 (HKy.out.trans hK)
     have HT9:=k8 (hC HTd.out)
     clear hK hC hF p0 p1 p2 p3 p4 p5 p6 p7 p8 p9 p10 p11 p12 p13 p14
     subst hx
     simp only [puts,Act.put,we,wg,wi,wj,wk]
     cases B with
     | true=>
      go_wp2_with fail
      refine (zd 9 _).mono ?_
      rintro e' w2 ⟨rfl,rfl⟩
      go_wp2
      obtain ⟨q1,q2⟩:=HFin.out y9 HK9.out HT9.out
      exact ⟨rfl,q1,rfl⟩
     | false=>
      go_wp2_with fail
      refine (zn 9 _).mono ?_
      rintro e' w2 ⟨rfl,rfl⟩
      go_wp2
      go_end0
      obtain ⟨q1,q2⟩:=HFin.out y9 HK9.out HT9.out
      exact ⟨q1,rfl,q2⟩
  | false=>
   rw [hout] at HV4
   rw [Bool.not_false,Bool.true_or]
   go_enter Tryz.func75,Tryz.ntmps75
   go_wp2_with fail
   refine je zi [.is (.pointer (some ⟨vb,0,none⟩)),.is (.pointer (some ⟨vb,0,none⟩)),.is (.pointer (some ⟨vb,8,none⟩)),.is (.map (some pb)),.is (.pointer (some ⟨w.heap.size,1,none⟩)),.is (.string s),.is (.tuple #[.int .i64 m,.bool o]),.is (.tuple #[.int .i64 m,.bool o]),.is (.int .i64 m),.is (.bool o),.is (.int .i64 m)] (by kernel_rfl) 11 (by decide) (by kernel_rfl) _ rfl ?_ ?_
   ·refine ⟨?_,?_,?_,?_,?_,?_,?_,?_,?_,?_,?_,trivial⟩
    ·refine jc rfl rfl rfl fun x y hB hF hD=>?_
     have e1:slot x 1=.pointer (some ⟨cb,0,none⟩):=hF.at 1 rfl
     have hc:y.cell? ⟨cb,0,none⟩=some (.pointer (some ⟨vb,0,none⟩)):=jb hB HI.out.var
     clear hB hF
     simp only [execOp,ja,e1]
     first|rfl|(go_simp;try rfl)
    ·refine jc rfl rfl rfl fun x y hB hF hD=>?_
     obtain ⟨d0,-⟩:=hD
     have e6:slot x 6=.pointer (some ⟨vb,0,none⟩):=d0 rfl
     clear hB hF
     simp only [execOp,ja,e6]
     first|rfl|(go_simp;try rfl)
    ·refine jc rfl rfl rfl fun x y hB hF hD=>?_
     obtain ⟨d0,-⟩:=hD
     have e7:slot x 7=.pointer (some ⟨vb,0,none⟩):=d0 rfl
     clear hB hF
     simp only [execOp,ja,e7]
     first|rfl|(go_simp;try rfl)
    ·refine jc rfl rfl rfl fun x y hB hF hD=>?_
     obtain ⟨d0,-⟩:=hD
     have e8:slot x 8=.pointer (some ⟨vb,8,none⟩):=d0 rfl
     have hc:y.cell? ⟨vb,8,none⟩=some (.map (some pb)):=jb hB HV8.out
     clear hB hF
     simp only [execOp,ja,e8]
     first|rfl|(go_simp;try rfl)
    ·refine jc rfl rfl rfl fun x y hB hF hD=>?_
     have e2:slot x 2=.pointer (some ⟨w.heap.size,0,none⟩):=hF.at 2 rfl
     clear hB hF
     simp only [execOp,ja,e2]
     first|rfl|(go_simp;try rfl)
    ·refine jc rfl rfl rfl fun x y hB hF hD=>?_
     obtain ⟨d0,-⟩:=hD
     have e10:slot x 10=.pointer (some ⟨w.heap.size,1,none⟩):=d0 rfl
     have hc:y.cell? ⟨w.heap.size,1,none⟩=some (.string s):=jb hB HX1.out
     clear hB hF
     simp only [execOp,ja,e10]
     first|rfl|(go_simp;try rfl)
    ·refine jc rfl rfl rfl fun x y hB hF hD=>?_
     obtain ⟨d0,d1,-⟩:=hD
     have e1:slot x 9=.map (some pb):=d0 rfl
     have e2:slot x 11=.string s:=d1 rfl
     have hrun:=xr keyS (j5.below HI.out.view.pointers hB) Tryz.underlying124 (zeroI y) s true
     rw [if_pos rfl,ptr_get,ptr_is,HM.out,HO.out] at hrun
     clear hB hF
     simp only [execOp,ja,e1,e2]
     simp [hrun,Result.andThen]
    ·refine jc rfl rfl rfl fun x y hB hF hD=>?_
     obtain ⟨d0,-⟩:=hD
     have e12:slot x 12=.tuple #[.int .i64 m,.bool o]:=d0 rfl
     clear hB hF
     simp only [execOp,ja,e12]
     first|rfl|(go_simp;try rfl)
    ·refine jc rfl rfl rfl fun x y hB hF hD=>?_
     obtain ⟨d0,-⟩:=hD
     have e5:slot x 5=.tuple #[.int .i64 m,.bool o]:=d0 rfl
     clear hB hF
     simp only [execOp,ja,e5]
     first|rfl|(go_simp;try rfl)
    ·refine jc rfl rfl rfl fun x y hB hF hD=>?_
     obtain ⟨d0,-⟩:=hD
     have e5:slot x 5=.tuple #[.int .i64 m,.bool o]:=d0 rfl
     clear hB hF
     simp only [execOp,ja,e5]
     first|rfl|(go_simp;try rfl)
    ·refine jc rfl rfl rfl fun x y hB hF hD=>?_
     obtain ⟨d0,-⟩:=hD
     have e13:slot x 13=.int .i64 m:=d0 rfl
     clear hB hF
     simp only [execOp,ja,e13]
     first|rfl|(go_simp;try rfl)
   ·intro x y hB hF hP
    obtain ⟨p0,p1,p2,p3,p4,p5,p6,p7,p8,p9,p10,-⟩:=hP
    have hx:=jj hF [(6,.pointer (some ⟨vb,0,none⟩)),(7,.pointer (some ⟨vb,0,none⟩)),(8,.pointer (some ⟨vb,8,none⟩)),(9,.map (some pb)),(10,.pointer (some ⟨w.heap.size,1,none⟩)),(11,.string s),(12,.tuple #[.int .i64 m,.bool o]),(5,.tuple #[.int .i64 m,.bool o]),(13,.int .i64 m),(14,.bool o),(3,.int .i64 m)] rfl ⟨p0,p1,p2,p3,p4,p5,p6,p7,p8,p9,p10,trivial⟩
    have HKy:=k8 (HK0.out.trans (jd hB))
    have HTd:=k8 (HTd.out.below hB)
    have hx0:=jb hB HX0.out
    have hxl:=k9 y _ hx0
    clear hB hF p0 p1 p2 p3 p4 p5 p6 p7 p8 p9 p10
    subst hx
    simp only [puts,Act.put,we,wg,wi,wj,wk]
    go_wp2_with fail
    clear hx0 hxl
    refine zy zi (keptR [tb] (Told p tb) (fun x h=>h)) [.is (.pointer (some ⟨vb,0,none⟩)),.is (.pointer (some ⟨vb,0,none⟩)),.is (.pointer (some ⟨vb,3,none⟩)),.is (.pointer (some ⟨vb,4,none⟩)),.is (.bool false),.is (.bool true),.is (.bool true),.is undef,.is undef,.is undef,.is undef,.is undef,.is undef,.is undef,.is (.bool true)] (by kernel_rfl) 15 (by decide) (by kernel_rfl) _ rfl ?_ ?_
    ·refine ⟨?_,?_,?_,?_,?_,?_,?_,?_,?_,?_,?_,?_,?_,?_,?_,trivial⟩
     ·refine jp rfl rfl rfl fun x y hB hF hD=>?_
      obtain ⟨hK,hC⟩:=hB
      have e1:slot x 1=.pointer (some ⟨cb,0,none⟩):=hF.at 1 rfl
      have hc:y.cell? ⟨cb,0,none⟩=some (.pointer (some ⟨vb,0,none⟩)):=(HKy.out.trans hK).cell HI.out.var (by simpa using HCtb.out)
      clear hK hC hF
      simp only [execOp,ja,e1]
      first|rfl|(go_simp;try rfl)
     ·refine jp rfl rfl rfl fun x y hB hF hD=>?_
      obtain ⟨d0,-⟩:=hD
      obtain ⟨hK,hC⟩:=hB
      have e40:slot x 40=.pointer (some ⟨vb,0,none⟩):=d0 rfl
      clear hK hC hF
      simp only [execOp,ja,e40]
      first|rfl|(go_simp;try rfl)
     ·refine jp rfl rfl rfl fun x y hB hF hD=>?_
      obtain ⟨d0,-⟩:=hD
      obtain ⟨hK,hC⟩:=hB
      have e41:slot x 41=.pointer (some ⟨vb,0,none⟩):=d0 rfl
      clear hK hC hF
      simp only [execOp,ja,e41]
      first|rfl|(go_simp;try rfl)
     ·refine jp rfl rfl rfl fun x y hB hF hD=>?_
      obtain ⟨d0,-⟩:=hD
      obtain ⟨hK,hC⟩:=hB
      have e42:slot x 42=.pointer (some ⟨vb,3,none⟩):=d0 rfl
      clear hK hC hF
      simp only [execOp,ja,e42]
      first|rfl|(go_simp;try rfl)
     ·refine jp rfl rfl rfl fun x y hB hF hD=>?_
      obtain ⟨d0,-⟩:=hD
      obtain ⟨hK,hC⟩:=hB
      have e43:slot x 43=.pointer (some ⟨vb,4,none⟩):=d0 rfl
      have hc:y.cell? ⟨vb,4,none⟩=some (.bool false):=(HKy.out.trans hK).cell HV4.out (by simpa using HVtb.out)
      clear hK hC hF
      simp only [execOp,ja,e43]
      first|rfl|(go_simp;try rfl)
     ·refine jp rfl rfl rfl fun x y hB hF hD=>?_
      obtain ⟨d0,-⟩:=hD
      obtain ⟨hK,hC⟩:=hB
      have e44:slot x 44=.bool false:=d0 rfl
      clear hK hC hF
      simp only [execOp,ja,e44]
      first|rfl|(go_simp;try rfl)
     ·refine jp rfl rfl rfl fun x y hB hF hD=>?_
      obtain ⟨d0,-⟩:=hD
      obtain ⟨hK,hC⟩:=hB
      have e45:slot x 45=.bool true:=d0 rfl
      clear hK hC hF
      simp only [execOp,ja,e45]
      first|rfl|(go_simp;try rfl)
     ·refine jf rfl rfl fun x y hB hF hD=>?_
      obtain ⟨d0,-⟩:=hD
      exact ⟨true,d0 rfl,by rw [if_neg (by decide)];first|rfl|exact trivial⟩
     ·refine jf rfl rfl fun x y hB hF hD=>?_
      obtain ⟨d0,-⟩:=hD
      exact ⟨true,d0 rfl,by rw [if_neg (by decide)];first|rfl|exact trivial⟩
     ·refine jf rfl rfl fun x y hB hF hD=>?_
      obtain ⟨d0,d1,-⟩:=hD
      exact ⟨true,d1 rfl,by rw [if_neg (by decide)];first|rfl|exact trivial⟩
     ·refine jf rfl rfl fun x y hB hF hD=>?_
      obtain ⟨d0,d1,-⟩:=hD
      exact ⟨true,d1 rfl,by rw [if_neg (by decide)];first|rfl|exact trivial⟩
     ·refine jf rfl rfl fun x y hB hF hD=>?_
      obtain ⟨d0,d1,-⟩:=hD
      exact ⟨true,d1 rfl,by rw [if_neg (by decide)];first|rfl|exact trivial⟩
     ·refine jf rfl rfl fun x y hB hF hD=>?_
      obtain ⟨d0,d1,d2,-⟩:=hD
      exact ⟨true,d2 rfl,by rw [if_neg (by decide)];first|rfl|exact trivial⟩
     ·refine jf rfl rfl fun x y hB hF hD=>?_
      obtain ⟨d0,d1,-⟩:=hD
      exact ⟨true,d1 rfl,by rw [if_neg (by decide)];first|rfl|exact trivial⟩
     ·refine jp rfl rfl rfl fun x y hB hF hD=>?_
      obtain ⟨d0,-⟩:=hD
      have e1:slot x 46=.bool true:=d0 rfl
      clear hB hF
      simp only [execOp,ja,e1]
      first|rfl|(go_simp;try rfl)
    ·intro x y9 hB hF hP
     obtain ⟨p0,p1,p2,p3,p4,p5,p6,p7,p8,p9,p10,p11,p12,p13,p14,-⟩:=hP
     obtain ⟨hK,hC⟩:=hB
     have hx:=jj hF [(40,.pointer (some ⟨vb,0,none⟩)),(41,.pointer (some ⟨vb,0,none⟩)),(42,.pointer (some ⟨vb,3,none⟩)),(43,.pointer (some ⟨vb,4,none⟩)),(44,.bool false),(45,.bool true),(46,.bool true),(47,undef),(48,undef),(49,undef),(50,undef),(51,undef),(52,undef),(53,undef),(54,.bool true)] rfl ⟨p0,p1,p2,p3,p4,p5,p6,p7,p8,p9,p10,p11,p12,p13,p14,trivial⟩
     have HK9:=k8 (HKy.out.trans hK)
     have HT9:=k8 (hC HTd.out)
     clear hK hC hF p0 p1 p2 p3 p4 p5 p6 p7 p8 p9 p10 p11 p12 p13 p14
     subst hx
     simp only [puts,Act.put,we,wg,wi,wj,wk]
     go_wp2_with fail
     refine (zn 9 _).mono ?_
     rintro e' w2 ⟨rfl,rfl⟩
     go_wp2
     go_end0
     obtain ⟨q1,q2⟩:=HFin.out y9 HK9.out HT9.out
     exact ⟨q1,rfl,q2⟩
 have t4:(k == 4)=false:=by simpa using h4
 have hev:=keptEv_else p i f (hid p i f) ⟨k,s,n,xs,t,e⟩ h2 h1 h4
 rw [hev]
 clear hev hm ho hde har hx1 hx3 HBr HHd hBW h2 h1 h4 hsl
 go_enter Tryz.func75,Tryz.ntmps75
 go_wp2_with fail
 refine je zi [.is (.pointer (some ⟨vb,0,none⟩)),.is (.pointer (some ⟨vb,0,none⟩)),.is (.pointer (some ⟨vb,8,none⟩)),.is (.map (some pb)),.is (.pointer (some ⟨w.heap.size,1,none⟩)),.is (.string s),.is (.tuple #[.int .i64 m,.bool o]),.is (.tuple #[.int .i64 m,.bool o]),.is (.int .i64 m),.is (.bool o),.is (.int .i64 m)] (by kernel_rfl) 11 (by decide) (by kernel_rfl) _ rfl ?_ ?_
 ·refine ⟨?_,?_,?_,?_,?_,?_,?_,?_,?_,?_,?_,trivial⟩
  ·refine jc rfl rfl rfl fun x y hB hF hD=>?_
   have e1:slot x 1=.pointer (some ⟨cb,0,none⟩):=hF.at 1 rfl
   have hc:y.cell? ⟨cb,0,none⟩=some (.pointer (some ⟨vb,0,none⟩)):=jb hB HI.out.var
   clear hB hF
   simp only [execOp,ja,e1]
   first|rfl|(go_simp;try rfl)
  ·refine jc rfl rfl rfl fun x y hB hF hD=>?_
   obtain ⟨d0,-⟩:=hD
   have e6:slot x 6=.pointer (some ⟨vb,0,none⟩):=d0 rfl
   clear hB hF
   simp only [execOp,ja,e6]
   first|rfl|(go_simp;try rfl)
  ·refine jc rfl rfl rfl fun x y hB hF hD=>?_
   obtain ⟨d0,-⟩:=hD
   have e7:slot x 7=.pointer (some ⟨vb,0,none⟩):=d0 rfl
   clear hB hF
   simp only [execOp,ja,e7]
   first|rfl|(go_simp;try rfl)
  ·refine jc rfl rfl rfl fun x y hB hF hD=>?_
   obtain ⟨d0,-⟩:=hD
   have e8:slot x 8=.pointer (some ⟨vb,8,none⟩):=d0 rfl
   have hc:y.cell? ⟨vb,8,none⟩=some (.map (some pb)):=jb hB HV8.out
   clear hB hF
   simp only [execOp,ja,e8]
   first|rfl|(go_simp;try rfl)
  ·refine jc rfl rfl rfl fun x y hB hF hD=>?_
   have e2:slot x 2=.pointer (some ⟨w.heap.size,0,none⟩):=hF.at 2 rfl
   clear hB hF
   simp only [execOp,ja,e2]
   first|rfl|(go_simp;try rfl)
  ·refine jc rfl rfl rfl fun x y hB hF hD=>?_
   obtain ⟨d0,-⟩:=hD
   have e10:slot x 10=.pointer (some ⟨w.heap.size,1,none⟩):=d0 rfl
   have hc:y.cell? ⟨w.heap.size,1,none⟩=some (.string s):=jb hB HX1.out
   clear hB hF
   simp only [execOp,ja,e10]
   first|rfl|(go_simp;try rfl)
  ·refine jc rfl rfl rfl fun x y hB hF hD=>?_
   obtain ⟨d0,d1,-⟩:=hD
   have e1:slot x 9=.map (some pb):=d0 rfl
   have e2:slot x 11=.string s:=d1 rfl
   have hrun:=xr keyS (j5.below HI.out.view.pointers hB) Tryz.underlying124 (zeroI y) s true
   rw [if_pos rfl,ptr_get,ptr_is,HM.out,HO.out] at hrun
   clear hB hF
   simp only [execOp,ja,e1,e2]
   simp [hrun,Result.andThen]
  ·refine jc rfl rfl rfl fun x y hB hF hD=>?_
   obtain ⟨d0,-⟩:=hD
   have e12:slot x 12=.tuple #[.int .i64 m,.bool o]:=d0 rfl
   clear hB hF
   simp only [execOp,ja,e12]
   first|rfl|(go_simp;try rfl)
  ·refine jc rfl rfl rfl fun x y hB hF hD=>?_
   obtain ⟨d0,-⟩:=hD
   have e5:slot x 5=.tuple #[.int .i64 m,.bool o]:=d0 rfl
   clear hB hF
   simp only [execOp,ja,e5]
   first|rfl|(go_simp;try rfl)
  ·refine jc rfl rfl rfl fun x y hB hF hD=>?_
   obtain ⟨d0,-⟩:=hD
   have e5:slot x 5=.tuple #[.int .i64 m,.bool o]:=d0 rfl
   clear hB hF
   simp only [execOp,ja,e5]
   first|rfl|(go_simp;try rfl)
  ·refine jc rfl rfl rfl fun x y hB hF hD=>?_
   obtain ⟨d0,-⟩:=hD
   have e13:slot x 13=.int .i64 m:=d0 rfl
   clear hB hF
   simp only [execOp,ja,e13]
   first|rfl|(go_simp;try rfl)
 ·intro x y hB hF hP
  obtain ⟨p0,p1,p2,p3,p4,p5,p6,p7,p8,p9,p10,-⟩:=hP
  have hx:=jj hF [(6,.pointer (some ⟨vb,0,none⟩)),(7,.pointer (some ⟨vb,0,none⟩)),(8,.pointer (some ⟨vb,8,none⟩)),(9,.map (some pb)),(10,.pointer (some ⟨w.heap.size,1,none⟩)),(11,.string s),(12,.tuple #[.int .i64 m,.bool o]),(5,.tuple #[.int .i64 m,.bool o]),(13,.int .i64 m),(14,.bool o),(3,.int .i64 m)] rfl ⟨p0,p1,p2,p3,p4,p5,p6,p7,p8,p9,p10,trivial⟩
  have HKy:=k8 (HK0.out.trans (jd hB))
  have HTd:=k8 (HTd.out.below hB)
  have hx0:=jb hB HX0.out
  have hxl:=k9 y _ hx0
  clear hB hF p0 p1 p2 p3 p4 p5 p6 p7 p8 p9 p10
  subst hx
  simp only [puts,Act.put,we,wg,wi,wj,wk]
  go_wp2
  go_end0
  obtain ⟨q1,q2⟩:=HFin.out y HKy.out HTd.out
  exact ⟨q1,rfl,q2⟩
end
section
open Go.RowKit
theorem keptArgs_zip (h:Expr→Bool):∀ (es:List Expr) (qs:List z8),es.length=qs.length→keptArgs h es qs=(es.zip qs).all fun x=>if x.2.kind=0 then !h x.1 else true
 | [],[],_=>by rw [keptArgs];rfl
 | [],_::_,h=>by simp at h
 | _::_,[],h=>by simp at h
 | e::es,q::qs,hl=>by rw [keptArgs,keptArgs_zip h es qs (by simpa using hl)];rfl
theorem keptEx_get (p:Src) (i:Nat) (f:Fun) (h:Expr→Bool) (s:ByteArray) (n:Int) (e0:Expr):yy p i f h (.inr ⟨2,n,s,[e0]⟩)=!h e0:=by rw [yy,if_pos rfl];rfl
theorem keptEx_op (p:Src) (i:Nat) (f:Fun) (h:Expr→Bool) (s:ByteArray) (n:Int) (e0 e1:Expr) (hn:n=13∨n=15):yy p i f h (.inr ⟨3,n,s,[e0,e1]⟩)=(!h e0 && !h e1):=by
 rw [yy,if_neg (show ¬ (3:Int)=2 by decide),if_pos ⟨rfl,hn⟩];rfl
theorem keptEx_op' (p:Src) (i:Nat) (f:Fun) (h:Expr→Bool) (s:ByteArray) (n:Int) (xs:List Expr) (h13:n≠13) (h15:n≠15):yy p i f h (.inr ⟨3,n,s,xs⟩)=true:=by
 rw [yy,if_neg (show ¬ (3:Int)=2 by decide),if_neg (fun h=>h.2.elim h13 h15),if_neg (show ¬ (3:Int)=5 by decide)]
theorem keptEx_call (p:Src) (i:Nat) (f:Fun) (h:Expr→Bool) (s:ByteArray) (n:Int) (xs:List Expr) (j:Nat) (g:Fun) (hj:yf p i s=some j) (hg:p.funcs[j]?=some g) (hl:xs.length=g.params.length):yy p i f h (.inr ⟨5,n,s,xs⟩)=(xs.zip g.params).all fun x=>if x.2.kind=0 then !h x.1 else true:=by
 rw [yy,if_neg (show ¬ (5:Int)=2 by decide),if_neg (fun h=>absurd h.1 (show ¬ (5:Int)=3 by decide)),if_pos rfl]
 simp only
 rw [hj]
 simp only
 rw [hg]
 simp only
 exact keptArgs_zip h xs g.params hl
theorem keptEx_else (p:Src) (i:Nat) (f:Fun) (h:Expr→Bool) (k n:Int) (s:ByteArray) (xs:List Expr) (h2:k≠2) (h3:k≠3) (h5:k≠5):yy p i f h (.inr ⟨k,n,s,xs⟩)=true:=by
 rw [yy,if_neg h2,if_neg (fun h=>h3 h.1),if_neg h5]
theorem kept2_any {w0:World} {p:Src} {i:Nat} {f:Fun} {vb ab pb sb tb cb:Nat} {w:World} (hF:kg p) (hWt:wtFs p.funcs≤100000) (hB0:Below w0.heap.size w0 w) (h:SInv w0 p i f vb ab pb sb tb cb (secS p i f) w) (hct:cb≠tb) (x:Expr) (v:Value) (hx:zl w0 x v) (hok:kh p i (.inr x)) :
  Calls Tryz.prog 77 #[v,.pointer (some ⟨cb,0,none⟩)] w (EvRet [tb] 9 (fun (_:Unit) w=>SInv w0 p i f vb ab pb sb tb cb (secS p i f) w) (optB (yy p i f (hid p i f) (.inr x))) w):=by
 obtain ⟨k,n,s,xs⟩:=x
 obtain ⟨a,c,rfl,hsl⟩:=qu hx
 simp only at hsl ⊢
 have htw:=h.told.lt
 have hBl:=(wu w.heap.size w).alloc (wo _) (.cells #[.int .i64 k,.int .u64 n,.string s,.slice a xs.length c] 53)
 have hx0:(w.alloc (.cells #[.int .i64 k,.int .u64 n,.string s,.slice a xs.length c] 53)).cell? ⟨w.heap.size,0,none⟩=some (.int .i64 k):=by simp
 have hx1:(w.alloc (.cells #[.int .i64 k,.int .u64 n,.string s,.slice a xs.length c] 53)).cell? ⟨w.heap.size,1,none⟩=some (.int .u64 n):=by simp
 have hx2:(w.alloc (.cells #[.int .i64 k,.int .u64 n,.string s,.slice a xs.length c] 53)).cell? ⟨w.heap.size,2,none⟩=some (.string s):=by simp
 have hx3:(w.alloc (.cells #[.int .i64 k,.int .u64 n,.string s,.slice a xs.length c] 53)).cell? ⟨w.heap.size,3,none⟩=some (.slice a xs.length c):=by simp
 have HX2:=k8 hx2
 have HB:=k8 hBl
 have HI:=k8 (h.below hBl)
 have HTd:=k8 HI.out.told
 have HXtb:=k8 (show w.heap.size≠tb by omega)
 have HCtb:=k8 hct
 obtain ⟨a0,c0,a1,c1,a2,c2,a3,c3,-,g1,-,-,-,-,-,-,-,-,-,hSrc,-⟩:=HI.out.view.open
 have htlo:=h.view.lo.2.2.2.2
 have hBW:=hB0.trans (hBl.mono hB0.size)
 have HBr:=k8 (fun (x:Expr) (v:Value) (hx:zl w0 x v) (hc:∀ y∈y4 x,kw p i y) (y:World) (hK:Kept [tb] (w.alloc (.cells #[.int .i64 k,.int .u64 n,.string s,.slice a xs.length c] 53)) y) (hT:Told p tb y)=>
  bare_any hF hWt (hBW.trans (hK.below (B:=w0.heap.size) hBW.size (fun b hb=>by simp only [wy] at hb;subst hb;exact htlo))) (HI.out.view.told hK) (HI.out.told' hct hK hT).sec hT x v hx hc)
 have HFin:=k8 (fun (y:World) (hK:Kept [tb] (w.alloc (.cells #[.int .i64 k,.int .u64 n,.string s,.slice a xs.length c] 53)) y) (hT:Told p tb y)=>(show Kept [tb] w y∧SInv w0 p i f vb ab pb sb tb cb (secS p i f) y from ⟨(jd hBl).trans hK,HI.out.told' hct hK hT⟩))
 have hde:∀ y∈y4 ⟨k,n,s,xs⟩,exprFine p i y:=hok
 rw [qq] at hde
 simp only at hde
 have har:arityE ⟨k,n,s,xs⟩:=(hde ⟨k,n,s,xs⟩ (by simp)).1
 have hcf:kw p i ⟨k,n,s,xs⟩:=(hde ⟨k,n,s,xs⟩ (by simp)).2
 have HK0:=k8 (Kept.refl [tb] (w.alloc (.cells #[.int .i64 k,.int .u64 n,.string s,.slice a xs.length c] 53)))
 clear hx hB0 hBl hF hWt h hok
 by_cases h2:k=2
 ·subst h2
  obtain ⟨e0,rfl⟩:=len1 (xs:=xs) (by
   have h1:=har.2.2.1;have h2:=har.2.2.2.1
   simp only at h1 h2
   rw [show (jk 2).least=1 from rfl] at h1;rw [show (jk 2).most=1 from rfl] at h2;omega)
  clear g1 hSrc hcf
  obtain ⟨_,_,he,hlc,hll,hr⟩:=hsl
  simp only [Value.slice.injEq] at he
  obtain ⟨rfl,-,rfl⟩:=he
  obtain ⟨xb,xo,rfl,hro⟩:=hr (by simp)
  obtain ⟨e0a,e0c,hc0,hXI,hxlt⟩:=ye (hro 0 e0 rfl) hBW
  rw [Nat.zero_mul,Nat.add_zero] at hc0
  have He0:=k8 hc0
  have HEtb:=k8 (show xb≠tb by omega)
  have HX3:=k8 hx3
  have HBr_e0:=k8 (HBr.out e0 _ hXI (fun z hz=>(hde z (List.mem_cons_of_mem _ (jq.2 ⟨e0,by simp,hz⟩))).2))
  clear hc0 hr hro hlc hll hxlt hXI
  simp only [List.length_cons,List.length_nil,Nat.zero_add] at *
  rw [keptEx_get]
  clear hde har hx1 hx2 hx3 HBr hBW
  generalize hid p i f e0=B at *
  go_enter Tryz.func77,Tryz.ntmps77
  go_wp2_with fail
  clear hx0
  refine je zi [.is (.pointer (some ⟨vb,0,none⟩)),.is (.pointer (some ⟨w.heap.size,3,none⟩)),.is (.slice (some ⟨xb,xo,none⟩) 1 c),.is (.pointer (some ⟨xb,xo,none⟩)),.is (.agg #[.int .i64 e0.kind,.int .u64 e0.num,.string e0.name,.slice e0a e0.args.length e0c])] (by kernel_rfl) 5 (by decide) (by kernel_rfl) _ rfl ?_ ?_
  ·refine ⟨?_,?_,?_,?_,?_,trivial⟩
   ·refine jc rfl rfl rfl fun x y1 hB hF hD=>?_
    have e1:slot x 1=.pointer (some ⟨cb,0,none⟩):=hF.at 1 rfl
    have hc:y1.cell? ⟨cb,0,none⟩=some (.pointer (some ⟨vb,0,none⟩)):=(HK0.out.trans (jd hB)).cell HI.out.var (by simpa using HCtb.out)
    clear hB hF
    simp only [execOp,ja,e1]
    first|rfl|(go_simp;try rfl)
   ·refine jc rfl rfl rfl fun x y1 hB hF hD=>?_
    have e2:slot x 2=.pointer (some ⟨w.heap.size,0,none⟩):=hF.at 2 rfl
    clear hB hF
    simp only [execOp,ja,e2]
    first|rfl|(go_simp;try rfl)
   ·refine jc rfl rfl rfl fun x y1 hB hF hD=>?_
    obtain ⟨d0,-⟩:=hD
    have e10:slot x 10=.pointer (some ⟨w.heap.size,3,none⟩):=d0 rfl
    have hc:y1.cell? ⟨w.heap.size,3,none⟩=some (.slice (some ⟨xb,xo,none⟩) 1 c):=(HK0.out.trans (jd hB)).cell HX3.out (by simpa using HXtb.out)
    clear hB hF
    simp only [execOp,ja,e10]
    first|rfl|(go_simp;try rfl)
   ·refine jc rfl rfl rfl fun x y1 hB hF hD=>?_
    obtain ⟨d0,-⟩:=hD
    have e11:slot x 11=.slice (some ⟨xb,xo,none⟩) 1 c:=d0 rfl
    clear hB hF
    simp only [execOp,ja,e11]
    first|rfl|(go_simp;try rfl)
   ·refine jc rfl rfl rfl fun x y1 hB hF hD=>?_
    obtain ⟨d0,-⟩:=hD
    have e12:slot x 12=.pointer (some ⟨xb,xo,none⟩):=d0 rfl
    have h0:y1.cell? ⟨xb,xo,none⟩=some (.int .i64 e0.kind):=(HK0.out.trans (jd hB)).cell He0.out.1 (by simpa using HEtb.out)
    have h1:y1.cell? ⟨xb,xo+1,none⟩=some (.int .u64 e0.num):=(HK0.out.trans (jd hB)).cell He0.out.2.1 (by simpa using HEtb.out)
    have h2:y1.cell? ⟨xb,xo+2,none⟩=some (.string e0.name):=(HK0.out.trans (jd hB)).cell He0.out.2.2.1 (by simpa using HEtb.out)
    have h3:y1.cell? ⟨xb,xo+3,none⟩=some (.slice e0a e0.args.length e0c):=(HK0.out.trans (jd hB)).cell He0.out.2.2.2 (by simpa using HEtb.out)
    clear hB hF
    simp only [execOp,ja,e12]
    first|rfl|(go_simp;try rfl)
  ·intro x y1 hB hF hP
   obtain ⟨p0,p1,p2,p3,p4,-⟩:=hP
   have hx:=jj hF [(9,.pointer (some ⟨vb,0,none⟩)),(10,.pointer (some ⟨w.heap.size,3,none⟩)),(11,.slice (some ⟨xb,xo,none⟩) 1 c),(12,.pointer (some ⟨xb,xo,none⟩)),(13,.agg #[.int .i64 e0.kind,.int .u64 e0.num,.string e0.name,.slice e0a e0.args.length e0c])] rfl ⟨p0,p1,p2,p3,p4,trivial⟩
   have HKy:=k8 (HK0.out.trans (jd hB))
   have HTy:=k8 (HTd.out.below hB)
   clear hB hF p0 p1 p2 p3 p4
   subst hx
   simp only [puts,Act.put,we,wg,wi,wj,wk]
   go_wp2_with fail
   refine (HBr_e0.out y1 HKy.out HTy.out).mono ?_
   rintro e' w2 ⟨hK2,hT2,he2⟩
   have HK2:=k8 (HKy.out.trans hK2)
   have HTd:=k8 hT2
   clear hK2 hT2 HKy HTy
   cases B with
   | true=>
    simp only [if_true] at he2
    subst he2
    go_wp2
    obtain ⟨q1,q2⟩:=HFin.out w2 HK2.out HTd.out
    exact ⟨rfl,q1,rfl⟩
   | false=>
    simp only [Bool.false_eq_true,if_false] at he2
    subst he2
    go_wp2
    go_end0
    obtain ⟨q1,q2⟩:=HFin.out w2 HK2.out HTd.out
    exact ⟨q1,rfl,q2⟩
 have t2:(k == 2)=false:=by simpa using h2
 by_cases h3:k=3
 ·subst h3
  clear g1 hSrc hcf
  by_cases h13:n=13
  ·subst h13
   obtain ⟨e0,e1,rfl⟩:=len2 (xs:=xs) (by
    have h1:=har.2.2.1;have h2:=har.2.2.2.1
    simp only at h1 h2
    rw [show (jk 3).least=2 from rfl] at h1;rw [show (jk 3).most=2 from rfl] at h2;omega)
   obtain ⟨_,_,he,hlc,hll,hr⟩:=hsl
   simp only [Value.slice.injEq] at he
   obtain ⟨rfl,-,rfl⟩:=he
   obtain ⟨xb,xo,rfl,hro⟩:=hr (by simp)
   obtain ⟨e0a,e0c,hc0,hXI,hxlt⟩:=ye (hro 0 e0 rfl) hBW
   obtain ⟨e1a,e1c,hc1,hXI1,-⟩:=ye (hro 1 e1 rfl) hBW
   rw [Nat.zero_mul,Nat.add_zero] at hc0
   have He0:=k8 hc0
   have HEtb:=k8 (show xb≠tb by omega)
   have HX3:=k8 hx3
   have HBr_e0:=k8 (HBr.out e0 _ hXI (fun z hz=>(hde z (List.mem_cons_of_mem _ (jq.2 ⟨e0,by simp,hz⟩))).2))
   have He1:=k8 hc1
   have HBr_e1:=k8 (HBr.out e1 _ hXI1 (fun z hz=>(hde z (List.mem_cons_of_mem _ (jq.2 ⟨e1,by simp,hz⟩))).2))
   clear hc1 hXI1
   clear hc0 hr hro hlc hll hxlt hXI
   simp only [List.length_cons,List.length_nil,Nat.zero_add] at *
   rw [keptEx_op p i f (hid p i f) s 13 e0 e1 (by first|exact .inl rfl|exact .inr rfl)]
   clear hde har hx2 hx3 HBr hBW h2 t2
   generalize hid p i f e0=B at *
   generalize hid p i f e1=B1 at *
   go_enter Tryz.func77,Tryz.ntmps77
   go_wp2_with fail
   clear hx0
   refine je zi [.is (.pointer (some ⟨vb,0,none⟩)),.is (.pointer (some ⟨w.heap.size,3,none⟩)),.is (.slice (some ⟨xb,xo,none⟩) 2 c),.is (.pointer (some ⟨xb,xo,none⟩)),.is (.agg #[.int .i64 e0.kind,.int .u64 e0.num,.string e0.name,.slice e0a e0.args.length e0c])] (by kernel_rfl) 5 (by decide) (by kernel_rfl) _ rfl ?_ ?_
   ·refine ⟨?_,?_,?_,?_,?_,trivial⟩
    ·refine jc rfl rfl rfl fun x y1 hB hF hD=>?_
     have e1:slot x 1=.pointer (some ⟨cb,0,none⟩):=hF.at 1 rfl
     have hc:y1.cell? ⟨cb,0,none⟩=some (.pointer (some ⟨vb,0,none⟩)):=(HK0.out.trans (jd hB)).cell HI.out.var (by simpa using HCtb.out)
     clear hB hF
     simp only [execOp,ja,e1]
     first|rfl|(go_simp;try rfl)
    ·refine jc rfl rfl rfl fun x y1 hB hF hD=>?_
     have e2:slot x 2=.pointer (some ⟨w.heap.size,0,none⟩):=hF.at 2 rfl
     clear hB hF
     simp only [execOp,ja,e2]
     first|rfl|(go_simp;try rfl)
    ·refine jc rfl rfl rfl fun x y1 hB hF hD=>?_
     obtain ⟨d0,-⟩:=hD
     have e30:slot x 30=.pointer (some ⟨w.heap.size,3,none⟩):=d0 rfl
     have hc:y1.cell? ⟨w.heap.size,3,none⟩=some (.slice (some ⟨xb,xo,none⟩) 2 c):=(HK0.out.trans (jd hB)).cell HX3.out (by simpa using HXtb.out)
     clear hB hF
     simp only [execOp,ja,e30]
     first|rfl|(go_simp;try rfl)
    ·refine jc rfl rfl rfl fun x y1 hB hF hD=>?_
     obtain ⟨d0,-⟩:=hD
     have e31:slot x 31=.slice (some ⟨xb,xo,none⟩) 2 c:=d0 rfl
     clear hB hF
     simp only [execOp,ja,e31]
     first|rfl|(go_simp;try rfl)
    ·refine jc rfl rfl rfl fun x y1 hB hF hD=>?_
     obtain ⟨d0,-⟩:=hD
     have e32:slot x 32=.pointer (some ⟨xb,xo,none⟩):=d0 rfl
     have h0:y1.cell? ⟨xb,xo,none⟩=some (.int .i64 e0.kind):=(HK0.out.trans (jd hB)).cell He0.out.1 (by simpa using HEtb.out)
     have h1:y1.cell? ⟨xb,xo+1,none⟩=some (.int .u64 e0.num):=(HK0.out.trans (jd hB)).cell He0.out.2.1 (by simpa using HEtb.out)
     have h2:y1.cell? ⟨xb,xo+2,none⟩=some (.string e0.name):=(HK0.out.trans (jd hB)).cell He0.out.2.2.1 (by simpa using HEtb.out)
     have h3:y1.cell? ⟨xb,xo+3,none⟩=some (.slice e0a e0.args.length e0c):=(HK0.out.trans (jd hB)).cell He0.out.2.2.2 (by simpa using HEtb.out)
     clear hB hF
     simp only [execOp,ja,e32]
     first|rfl|(go_simp;try rfl)
   ·intro x y1 hB hF hP
    obtain ⟨p0,p1,p2,p3,p4,-⟩:=hP
    have hx:=jj hF [(29,.pointer (some ⟨vb,0,none⟩)),(30,.pointer (some ⟨w.heap.size,3,none⟩)),(31,.slice (some ⟨xb,xo,none⟩) 2 c),(32,.pointer (some ⟨xb,xo,none⟩)),(33,.agg #[.int .i64 e0.kind,.int .u64 e0.num,.string e0.name,.slice e0a e0.args.length e0c])] rfl ⟨p0,p1,p2,p3,p4,trivial⟩
    have HKy:=k8 (HK0.out.trans (jd hB))
    have HTy:=k8 (HTd.out.below hB)
    clear hB hF p0 p1 p2 p3 p4
    subst hx
    simp only [puts,Act.put,we,wg,wi,wj,wk]
    go_wp2_with fail
    refine (HBr_e0.out y1 HKy.out HTy.out).mono ?_
    rintro e' w2 ⟨hK2,hT2,he2⟩
    have HK2:=k8 (HKy.out.trans hK2)
    have HTd:=k8 hT2
    clear hK2 hT2 HKy HTy
    cases B with
    | true=>
     simp only [if_true] at he2
     subst he2
     go_wp2
     obtain ⟨q1,q2⟩:=HFin.out w2 HK2.out HTd.out
     exact ⟨rfl,q1,rfl⟩
    | false=>
     simp only [Bool.false_eq_true,if_false] at he2
     subst he2
     go_wp2_with fail
     refine je zi [.is (.pointer (some ⟨vb,0,none⟩)),.is (.pointer (some ⟨w.heap.size,3,none⟩)),.is (.slice (some ⟨xb,xo,none⟩) 2 c),.is (.pointer (some ⟨xb,xo+4,none⟩)),.is (.agg #[.int .i64 e1.kind,.int .u64 e1.num,.string e1.name,.slice e1a e1.args.length e1c])] (by kernel_rfl) 5 (by decide) (by kernel_rfl) _ rfl ?_ ?_
     ·refine ⟨?_,?_,?_,?_,?_,trivial⟩
      ·refine jc rfl rfl rfl fun x y3 hB hF hD=>?_
       have e1:slot x 1=.pointer (some ⟨cb,0,none⟩):=hF.at 1 rfl
       have hc:y3.cell? ⟨cb,0,none⟩=some (.pointer (some ⟨vb,0,none⟩)):=(HK2.out.trans (jd hB)).cell HI.out.var (by simpa using HCtb.out)
       clear hB hF
       simp only [execOp,ja,e1]
       first|rfl|(go_simp;try rfl)
      ·refine jc rfl rfl rfl fun x y3 hB hF hD=>?_
       have e2:slot x 2=.pointer (some ⟨w.heap.size,0,none⟩):=hF.at 2 rfl
       clear hB hF
       simp only [execOp,ja,e2]
       first|rfl|(go_simp;try rfl)
      ·refine jc rfl rfl rfl fun x y3 hB hF hD=>?_
       obtain ⟨d0,-⟩:=hD
       have e36:slot x 36=.pointer (some ⟨w.heap.size,3,none⟩):=d0 rfl
       have hc:y3.cell? ⟨w.heap.size,3,none⟩=some (.slice (some ⟨xb,xo,none⟩) 2 c):=(HK2.out.trans (jd hB)).cell HX3.out (by simpa using HXtb.out)
       clear hB hF
       simp only [execOp,ja,e36]
       first|rfl|(go_simp;try rfl)
      ·refine jc rfl rfl rfl fun x y3 hB hF hD=>?_
       obtain ⟨d0,-⟩:=hD
       have e37:slot x 37=.slice (some ⟨xb,xo,none⟩) 2 c:=d0 rfl
       clear hB hF
       simp only [execOp,ja,e37]
       first|rfl|(go_simp;try rfl)
      ·refine jc rfl rfl rfl fun x y3 hB hF hD=>?_
       obtain ⟨d0,-⟩:=hD
       have e38:slot x 38=.pointer (some ⟨xb,xo+4,none⟩):=d0 rfl
       have h0:y3.cell? ⟨xb,xo+4,none⟩=some (.int .i64 e1.kind):=(HK2.out.trans (jd hB)).cell He1.out.1 (by simpa using HEtb.out)
       have h1:y3.cell? ⟨xb,xo+5,none⟩=some (.int .u64 e1.num):=(HK2.out.trans (jd hB)).cell He1.out.2.1 (by simpa using HEtb.out)
       have h2:y3.cell? ⟨xb,xo+6,none⟩=some (.string e1.name):=(HK2.out.trans (jd hB)).cell He1.out.2.2.1 (by simpa using HEtb.out)
       have h3:y3.cell? ⟨xb,xo+7,none⟩=some (.slice e1a e1.args.length e1c):=(HK2.out.trans (jd hB)).cell He1.out.2.2.2 (by simpa using HEtb.out)
       clear hB hF
       simp only [execOp,ja,e38]
       first|rfl|(go_simp;try rfl)
     ·intro x y3 hB hF hP
      obtain ⟨p0,p1,p2,p3,p4,-⟩:=hP
      have hx:=jj hF [(35,.pointer (some ⟨vb,0,none⟩)),(36,.pointer (some ⟨w.heap.size,3,none⟩)),(37,.slice (some ⟨xb,xo,none⟩) 2 c),(38,.pointer (some ⟨xb,xo+4,none⟩)),(39,.agg #[.int .i64 e1.kind,.int .u64 e1.num,.string e1.name,.slice e1a e1.args.length e1c])] rfl ⟨p0,p1,p2,p3,p4,trivial⟩
      have HKy:=k8 (HK2.out.trans (jd hB))
      have HTy:=k8 (HTd.out.below hB)
      clear hB hF p0 p1 p2 p3 p4
      subst hx
      simp only [puts,Act.put,we,wg,wi,wj,wk]
      go_wp2_with fail
      refine (HBr_e1.out y3 HKy.out HTy.out).mono ?_
      rintro e' w4 ⟨hK2,hT2,he2⟩
      have HK4:=k8 (HKy.out.trans hK2)
      have HTd:=k8 hT2
      clear hK2 hT2 HKy HTy
      cases B1 with
      | true=>
       simp only [if_true] at he2
       subst he2
       go_wp2
       obtain ⟨q1,q2⟩:=HFin.out w4 HK4.out HTd.out
       exact ⟨rfl,q1,rfl⟩
      | false=>
       simp only [Bool.false_eq_true,if_false] at he2
       subst he2
       go_wp2
       go_end0
       obtain ⟨q1,q2⟩:=HFin.out w4 HK4.out HTd.out
       exact ⟨q1,rfl,q2⟩
  have t13:(n == 13)=false:=by simpa using h13
  by_cases h15:n=15
  ·subst h15
   obtain ⟨e0,e1,rfl⟩:=len2 (xs:=xs) (by
    have h1:=har.2.2.1;have h2:=har.2.2.2.1
    simp only at h1 h2
    rw [show (jk 3).least=2 from rfl] at h1;rw [show (jk 3).most=2 from rfl] at h2;omega)
   obtain ⟨_,_,he,hlc,hll,hr⟩:=hsl
   simp only [Value.slice.injEq] at he
   obtain ⟨rfl,-,rfl⟩:=he
   obtain ⟨xb,xo,rfl,hro⟩:=hr (by simp)
   obtain ⟨e0a,e0c,hc0,hXI,hxlt⟩:=ye (hro 0 e0 rfl) hBW
   obtain ⟨e1a,e1c,hc1,hXI1,-⟩:=ye (hro 1 e1 rfl) hBW
   rw [Nat.zero_mul,Nat.add_zero] at hc0
   have He0:=k8 hc0
   have HEtb:=k8 (show xb≠tb by omega)
   have HX3:=k8 hx3
   have HBr_e0:=k8 (HBr.out e0 _ hXI (fun z hz=>(hde z (List.mem_cons_of_mem _ (jq.2 ⟨e0,by simp,hz⟩))).2))
   have He1:=k8 hc1
   have HBr_e1:=k8 (HBr.out e1 _ hXI1 (fun z hz=>(hde z (List.mem_cons_of_mem _ (jq.2 ⟨e1,by simp,hz⟩))).2))
   clear hc1 hXI1
   clear hc0 hr hro hlc hll hxlt hXI
   simp only [List.length_cons,List.length_nil,Nat.zero_add] at *
   rw [keptEx_op p i f (hid p i f) s 15 e0 e1 (by first|exact .inl rfl|exact .inr rfl)]
   clear hde har hx2 hx3 HBr hBW h2 t2
   generalize hid p i f e0=B at *
   generalize hid p i f e1=B1 at *
   go_enter Tryz.func77,Tryz.ntmps77
   go_wp2_with fail
   clear hx0
   refine je zi [.is (.pointer (some ⟨vb,0,none⟩)),.is (.pointer (some ⟨w.heap.size,3,none⟩)),.is (.slice (some ⟨xb,xo,none⟩) 2 c),.is (.pointer (some ⟨xb,xo,none⟩)),.is (.agg #[.int .i64 e0.kind,.int .u64 e0.num,.string e0.name,.slice e0a e0.args.length e0c])] (by kernel_rfl) 5 (by decide) (by kernel_rfl) _ rfl ?_ ?_
   ·refine ⟨?_,?_,?_,?_,?_,trivial⟩
    ·refine jc rfl rfl rfl fun x y1 hB hF hD=>?_
     have e1:slot x 1=.pointer (some ⟨cb,0,none⟩):=hF.at 1 rfl
     have hc:y1.cell? ⟨cb,0,none⟩=some (.pointer (some ⟨vb,0,none⟩)):=(HK0.out.trans (jd hB)).cell HI.out.var (by simpa using HCtb.out)
     clear hB hF
     simp only [execOp,ja,e1]
     first|rfl|(go_simp;try rfl)
    ·refine jc rfl rfl rfl fun x y1 hB hF hD=>?_
     have e2:slot x 2=.pointer (some ⟨w.heap.size,0,none⟩):=hF.at 2 rfl
     clear hB hF
     simp only [execOp,ja,e2]
     first|rfl|(go_simp;try rfl)
    ·refine jc rfl rfl rfl fun x y1 hB hF hD=>?_
     obtain ⟨d0,-⟩:=hD
     have e30:slot x 30=.pointer (some ⟨w.heap.size,3,none⟩):=d0 rfl
     have hc:y1.cell? ⟨w.heap.size,3,none⟩=some (.slice (some ⟨xb,xo,none⟩) 2 c):=(HK0.out.trans (jd hB)).cell HX3.out (by simpa using HXtb.out)
     clear hB hF
     simp only [execOp,ja,e30]
     first|rfl|(go_simp;try rfl)
    ·refine jc rfl rfl rfl fun x y1 hB hF hD=>?_
     obtain ⟨d0,-⟩:=hD
     have e31:slot x 31=.slice (some ⟨xb,xo,none⟩) 2 c:=d0 rfl
     clear hB hF
     simp only [execOp,ja,e31]
     first|rfl|(go_simp;try rfl)
    ·refine jc rfl rfl rfl fun x y1 hB hF hD=>?_
     obtain ⟨d0,-⟩:=hD
     have e32:slot x 32=.pointer (some ⟨xb,xo,none⟩):=d0 rfl
     have h0:y1.cell? ⟨xb,xo,none⟩=some (.int .i64 e0.kind):=(HK0.out.trans (jd hB)).cell He0.out.1 (by simpa using HEtb.out)
     have h1:y1.cell? ⟨xb,xo+1,none⟩=some (.int .u64 e0.num):=(HK0.out.trans (jd hB)).cell He0.out.2.1 (by simpa using HEtb.out)
     have h2:y1.cell? ⟨xb,xo+2,none⟩=some (.string e0.name):=(HK0.out.trans (jd hB)).cell He0.out.2.2.1 (by simpa using HEtb.out)
     have h3:y1.cell? ⟨xb,xo+3,none⟩=some (.slice e0a e0.args.length e0c):=(HK0.out.trans (jd hB)).cell He0.out.2.2.2 (by simpa using HEtb.out)
     clear hB hF
     simp only [execOp,ja,e32]
     first|rfl|(go_simp;try rfl)
   ·intro x y1 hB hF hP
    obtain ⟨p0,p1,p2,p3,p4,-⟩:=hP
    have hx:=jj hF [(29,.pointer (some ⟨vb,0,none⟩)),(30,.pointer (some ⟨w.heap.size,3,none⟩)),(31,.slice (some ⟨xb,xo,none⟩) 2 c),(32,.pointer (some ⟨xb,xo,none⟩)),(33,.agg #[.int .i64 e0.kind,.int .u64 e0.num,.string e0.name,.slice e0a e0.args.length e0c])] rfl ⟨p0,p1,p2,p3,p4,trivial⟩
    have HKy:=k8 (HK0.out.trans (jd hB))
    have HTy:=k8 (HTd.out.below hB)
    clear hB hF p0 p1 p2 p3 p4
    subst hx
    simp only [puts,Act.put,we,wg,wi,wj,wk]
    go_wp2_with fail
    refine (HBr_e0.out y1 HKy.out HTy.out).mono ?_
    rintro e' w2 ⟨hK2,hT2,he2⟩
    have HK2:=k8 (HKy.out.trans hK2)
    have HTd:=k8 hT2
    clear hK2 hT2 HKy HTy
    cases B with
    | true=>
     simp only [if_true] at he2
     subst he2
     go_wp2
     obtain ⟨q1,q2⟩:=HFin.out w2 HK2.out HTd.out
     exact ⟨rfl,q1,rfl⟩
    | false=>
     simp only [Bool.false_eq_true,if_false] at he2
     subst he2
     go_wp2_with fail
     refine je zi [.is (.pointer (some ⟨vb,0,none⟩)),.is (.pointer (some ⟨w.heap.size,3,none⟩)),.is (.slice (some ⟨xb,xo,none⟩) 2 c),.is (.pointer (some ⟨xb,xo+4,none⟩)),.is (.agg #[.int .i64 e1.kind,.int .u64 e1.num,.string e1.name,.slice e1a e1.args.length e1c])] (by kernel_rfl) 5 (by decide) (by kernel_rfl) _ rfl ?_ ?_
     ·refine ⟨?_,?_,?_,?_,?_,trivial⟩
      ·refine jc rfl rfl rfl fun x y3 hB hF hD=>?_
       have e1:slot x 1=.pointer (some ⟨cb,0,none⟩):=hF.at 1 rfl
       have hc:y3.cell? ⟨cb,0,none⟩=some (.pointer (some ⟨vb,0,none⟩)):=(HK2.out.trans (jd hB)).cell HI.out.var (by simpa using HCtb.out)
       clear hB hF
       simp only [execOp,ja,e1]
       first|rfl|(go_simp;try rfl)
      ·refine jc rfl rfl rfl fun x y3 hB hF hD=>?_
       have e2:slot x 2=.pointer (some ⟨w.heap.size,0,none⟩):=hF.at 2 rfl
       clear hB hF
       simp only [execOp,ja,e2]
       first|rfl|(go_simp;try rfl)
      ·refine jc rfl rfl rfl fun x y3 hB hF hD=>?_
       obtain ⟨d0,-⟩:=hD
       have e36:slot x 36=.pointer (some ⟨w.heap.size,3,none⟩):=d0 rfl
       have hc:y3.cell? ⟨w.heap.size,3,none⟩=some (.slice (some ⟨xb,xo,none⟩) 2 c):=(HK2.out.trans (jd hB)).cell HX3.out (by simpa using HXtb.out)
       clear hB hF
       simp only [execOp,ja,e36]
       first|rfl|(go_simp;try rfl)
      ·refine jc rfl rfl rfl fun x y3 hB hF hD=>?_
       obtain ⟨d0,-⟩:=hD
       have e37:slot x 37=.slice (some ⟨xb,xo,none⟩) 2 c:=d0 rfl
       clear hB hF
       simp only [execOp,ja,e37]
       first|rfl|(go_simp;try rfl)
      ·refine jc rfl rfl rfl fun x y3 hB hF hD=>?_
       obtain ⟨d0,-⟩:=hD
       have e38:slot x 38=.pointer (some ⟨xb,xo+4,none⟩):=d0 rfl
       have h0:y3.cell? ⟨xb,xo+4,none⟩=some (.int .i64 e1.kind):=(HK2.out.trans (jd hB)).cell He1.out.1 (by simpa using HEtb.out)
       have h1:y3.cell? ⟨xb,xo+5,none⟩=some (.int .u64 e1.num):=(HK2.out.trans (jd hB)).cell He1.out.2.1 (by simpa using HEtb.out)
       have h2:y3.cell? ⟨xb,xo+6,none⟩=some (.string e1.name):=(HK2.out.trans (jd hB)).cell He1.out.2.2.1 (by simpa using HEtb.out)
       have h3:y3.cell? ⟨xb,xo+7,none⟩=some (.slice e1a e1.args.length e1c):=(HK2.out.trans (jd hB)).cell He1.out.2.2.2 (by simpa using HEtb.out)
       clear hB hF
       simp only [execOp,ja,e38]
       first|rfl|(go_simp;try rfl)
     ·intro x y3 hB hF hP
      obtain ⟨p0,p1,p2,p3,p4,-⟩:=hP
      have hx:=jj hF [(35,.pointer (some ⟨vb,0,none⟩)),(36,.pointer (some ⟨w.heap.size,3,none⟩)),(37,.slice (some ⟨xb,xo,none⟩) 2 c),(38,.pointer (some ⟨xb,xo+4,none⟩)),(39,.agg #[.int .i64 e1.kind,.int .u64 e1.num,.string e1.name,.slice e1a e1.args.length e1c])] rfl ⟨p0,p1,p2,p3,p4,trivial⟩
      have HKy:=k8 (HK2.out.trans (jd hB))
      have HTy:=k8 (HTd.out.below hB)
      clear hB hF p0 p1 p2 p3 p4
      subst hx
      simp only [puts,Act.put,we,wg,wi,wj,wk]
      go_wp2_with fail
      refine (HBr_e1.out y3 HKy.out HTy.out).mono ?_
      rintro e' w4 ⟨hK2,hT2,he2⟩
      have HK4:=k8 (HKy.out.trans hK2)
      have HTd:=k8 hT2
      clear hK2 hT2 HKy HTy
      cases B1 with
      | true=>
       simp only [if_true] at he2
       subst he2
       go_wp2
       obtain ⟨q1,q2⟩:=HFin.out w4 HK4.out HTd.out
       exact ⟨rfl,q1,rfl⟩
      | false=>
       simp only [Bool.false_eq_true,if_false] at he2
       subst he2
       go_wp2
       go_end0
       obtain ⟨q1,q2⟩:=HFin.out w4 HK4.out HTd.out
       exact ⟨q1,rfl,q2⟩
  have t15:(n == 15)=false:=by simpa using h15
  rw [keptEx_op' _ _ _ _ _ _ _ h13 h15]
  clear hde har hx2 hx3 HBr hBW hsl h2 h13 h15 t2
  go_enter Tryz.func77,Tryz.ntmps77
  go_wp2
  go_end0
  obtain ⟨q1,q2⟩:=HFin.out _ HK0.out HTd.out
  exact ⟨q1,rfl,q2⟩
 have t3:(k == 3)=false:=by simpa using h3
 by_cases h5:k=5
 ·subst h5
  obtain ⟨j,g,hj,hg,hln⟩:=hcf rfl
  simp only at hj hln
  have hjI:calledI p i s=j:=by
   rcases xh p i s with ⟨h1,h2⟩|⟨j',h1,h2,_⟩
   ·rw [hj] at h1;cases h1
   ·rw [hj] at h1;cases h1;exact h2
  have HJ:=k8 hjI
  have hjl:j<p.funcs.length:=(List.getElem?_eq_some_iff.1 hg).1
  obtain ⟨_,hsf⟩:=srcIs_at hSrc
  obtain ⟨_,_,he,hcf2,hlf,hrf⟩:=hsf
  simp only [Value.slice.injEq] at he
  obtain ⟨rfl,-,rfl⟩:=he
  obtain ⟨fb,fo,rfl,hrow⟩:=hrf (by intro h;rw [h] at hjl;simp at hjl)
  obtain ⟨ga,gc,_,_,-,-,hg2,-,hgp,-⟩:=funIs_at (hrow j g hg)
  have HG2:=k8 (jb hBW hg2)
  have HV1:=k8 g1
  have HBW:=k8 hBW
  have HGp:=k8 hgp
  have HSl:=k8 hsl
  have HX3:=k8 hx3
  have HDe:=k8 hde
  have HLn:=k8 hln
  have hgl:g.params.length≤140737488351232:=by
   obtain ⟨_,_,_,_,h,_⟩:=hgp
   exact h
  rw [keptEx_call p i f (hid p i f) s n xs j g hj hg hln]
  obtain ⟨R,hRd⟩:∃ R,R=(xs.zip g.params).all fun x=>if x.2.kind=0 then !hid p i f x.1 else true:=⟨_,rfl⟩
  rw [← hRd]
  have HR:=k8 hRd
  clear hRd hde har hx1 hx2 hx3 hBW hsl h2 t2 h3 g1 hSrc hcf hj hg hln hjI hrf hrow hg2 hgp hcf2
  have t3:((5:Int) == 3)=false:=rfl
  go_enter Tryz.func77,Tryz.ntmps77
  go_wp2_with fail
  clear hx0
  refine wp_region_list zi [.is (.pointer (some ⟨vb,0,none⟩)),.is (.pointer (some ⟨vb,0,none⟩)),.is (.pointer (some ⟨vb,0,none⟩)),.is (.pointer (some ⟨vb,1,none⟩)),.is (.slice (some ⟨fb,fo,none⟩) p.funcs.length c1),.is (.pointer (some ⟨vb,0,none⟩)),.is (.pointer (some ⟨w.heap.size,2,none⟩)),.is (.string s),.is (.int .i64 j),.is (.pointer (some ⟨fb,fo+j * 4,none⟩)),.is (.pointer (some ⟨fb,fo+j * 4+2,none⟩)),.is (.slice ga g.params.length gc),.is (.int .i64 g.params.length),.is (.int .i64 0)] (by kernel_rfl) ?_ ?_
  ·refine ⟨?_,?_,?_,?_,?_,?_,?_,?_,?_,?_,?_,?_,?_,?_,trivial⟩
   ·refine jc rfl rfl rfl fun x y hB hF hD=>?_
    have e1:slot x 1=.pointer (some ⟨cb,0,none⟩):=hF.at 1 rfl
    have hc:y.cell? ⟨cb,0,none⟩=some (.pointer (some ⟨vb,0,none⟩)):=jb hB HI.out.var
    clear hB hF
    simp only [execOp,ja,e1]
    first|rfl|(go_simp;try rfl)
   ·refine jc rfl rfl rfl fun x y hB hF hD=>?_
    obtain ⟨d0,-⟩:=hD
    have e45:slot x 45=.pointer (some ⟨vb,0,none⟩):=d0 rfl
    clear hB hF
    simp only [execOp,ja,e45]
    first|rfl|(go_simp;try rfl)
   ·refine jc rfl rfl rfl fun x y hB hF hD=>?_
    obtain ⟨d0,-⟩:=hD
    have e46:slot x 46=.pointer (some ⟨vb,0,none⟩):=d0 rfl
    clear hB hF
    simp only [execOp,ja,e46]
    first|rfl|(go_simp;try rfl)
   ·refine jc rfl rfl rfl fun x y hB hF hD=>?_
    obtain ⟨d0,-⟩:=hD
    have e47:slot x 47=.pointer (some ⟨vb,0,none⟩):=d0 rfl
    clear hB hF
    simp only [execOp,ja,e47]
    first|rfl|(go_simp;try rfl)
   ·refine jc rfl rfl rfl fun x y hB hF hD=>?_
    obtain ⟨d0,-⟩:=hD
    have e48:slot x 48=.pointer (some ⟨vb,1,none⟩):=d0 rfl
    have hc:y.cell? ⟨vb,1,none⟩=some (.slice (some ⟨fb,fo,none⟩) p.funcs.length c1):=jb hB HV1.out
    clear hB hF
    simp only [execOp,ja,e48]
    first|rfl|(go_simp;try rfl)
   ·refine jc rfl rfl rfl fun x y hB hF hD=>?_
    have e1:slot x 1=.pointer (some ⟨cb,0,none⟩):=hF.at 1 rfl
    have hc:y.cell? ⟨cb,0,none⟩=some (.pointer (some ⟨vb,0,none⟩)):=jb hB HI.out.var
    clear hB hF
    simp only [execOp,ja,e1]
    first|rfl|(go_simp;try rfl)
   ·refine jc rfl rfl rfl fun x y hB hF hD=>?_
    have e2:slot x 2=.pointer (some ⟨w.heap.size,0,none⟩):=hF.at 2 rfl
    clear hB hF
    simp only [execOp,ja,e2]
    first|rfl|(go_simp;try rfl)
   ·refine jc rfl rfl rfl fun x y hB hF hD=>?_
    obtain ⟨d0,-⟩:=hD
    have e51:slot x 51=.pointer (some ⟨w.heap.size,2,none⟩):=d0 rfl
    have hc:y.cell? ⟨w.heap.size,2,none⟩=some (.string s):=jb hB HX2.out
    clear hB hF
    simp only [execOp,ja,e51]
    first|rfl|(go_simp;try rfl)
   ·refine jn (f:=78) rfl rfl fun x y hB hF hD=>⟨#[.pointer (some ⟨vb,0,none⟩),.string s],?_,?_⟩
    ·obtain ⟨d0,d1,-⟩:=hD
     have e1:slot x 50=.pointer (some ⟨vb,0,none⟩):=d0 rfl
     have e2:slot x 52=.string s:=d1 rfl
     have g1:=jh e1
     have g2:=jh e2
     clear hB hF e1 e2
     simp only [execOp]
     simp [go_sem,g1,g2]
    ·refine (called_any (HBW.out.trans (hB.mono HBW.out.size)) (HI.out.view.below hB) s).mono ?_
     rintro e w' ⟨rfl,hb⟩
     exact ⟨hb,.inl ⟨_,rfl,by rw [HJ.out];rfl⟩⟩
   ·refine jc rfl rfl rfl fun x y hB hF hD=>?_
    obtain ⟨d0,d1,-⟩:=hD
    have e49:slot x 49=.slice (some ⟨fb,fo,none⟩) p.funcs.length c1:=d0 rfl
    have e53:slot x 53=.int .i64 j:=d1 rfl
    clear hB hF
    simp only [execOp,ja,e49,e53]
    first|rfl|(go_simp;try rfl)
   ·refine jc rfl rfl rfl fun x y hB hF hD=>?_
    obtain ⟨d0,-⟩:=hD
    have e54:slot x 54=.pointer (some ⟨fb,fo+j * 4,none⟩):=d0 rfl
    clear hB hF
    simp only [execOp,ja,e54]
    first|rfl|(go_simp;try rfl)
   ·refine jc rfl rfl rfl fun x y hB hF hD=>?_
    obtain ⟨d0,-⟩:=hD
    have e55:slot x 55=.pointer (some ⟨fb,fo+j * 4+2,none⟩):=d0 rfl
    have hc:y.cell? ⟨fb,fo+j * 4+2,none⟩=some (.slice ga g.params.length gc):=jb hB HG2.out
    clear hB hF
    simp only [execOp,ja,e55]
    first|rfl|(go_simp;try rfl)
   ·refine jc rfl rfl rfl fun x y hB hF hD=>?_
    obtain ⟨d0,-⟩:=hD
    have e56:slot x 56=.slice ga g.params.length gc:=d0 rfl
    have g56:=jh e56
    clear hB hF e56
    simp only [execOp]
    simp [go_sem,g56]
   ·refine jc rfl rfl rfl fun x y hB hF hD=>?_
    clear hB hF
    simp only [execOp,ja]
    first|rfl|(go_simp;try rfl)
  ·intro x y hB hF hP
   obtain ⟨p0,p1,p2,p3,p4,p5,p6,p7,p8,p9,p10,p11,p12,p13,-⟩:=hP
   have hx:=jj hF [(45,.pointer (some ⟨vb,0,none⟩)),(46,.pointer (some ⟨vb,0,none⟩)),(47,.pointer (some ⟨vb,0,none⟩)),(48,.pointer (some ⟨vb,1,none⟩)),(49,.slice (some ⟨fb,fo,none⟩) p.funcs.length c1),(50,.pointer (some ⟨vb,0,none⟩)),(51,.pointer (some ⟨w.heap.size,2,none⟩)),(52,.string s),(53,.int .i64 j),(54,.pointer (some ⟨fb,fo+j * 4,none⟩)),(55,.pointer (some ⟨fb,fo+j * 4+2,none⟩)),(56,.slice ga g.params.length gc),(57,.int .i64 g.params.length),(58,.int .i64 0)] rfl ⟨p0,p1,p2,p3,p4,p5,p6,p7,p8,p9,p10,p11,p12,p13,trivial⟩
   have HKy:=k8 (jd (M:=[tb]) hB)
   have HTy:=k8 (HTd.out.below hB)
   clear hB hF p0 p1 p2 p3 p4 p5 p6 p7 p8 p9 p10 p11 p12 p13
   subst hx
   simp only [puts,Act.put,we,wg,wi,wj,wk]
   go_wp2_with fail
   go_loopw [58] (fun iv wr=>∃ ik:Nat,ik≤g.params.length∧iv=.int .i64 ik∧Kept [tb] (w.alloc (.cells #[.int .i64 5,.int .u64 n,.string s,.slice a xs.length c] 53)) wr∧Told p tb wr∧((xs.zip g.params).take ik).all (fun x=>if x.2.kind=0 then !hid p i f x.1 else true)=true) (fun iv _=>g.params.length - (intOf iv).toNat)
   case atStart=>exact ⟨0,gj _,rfl,HKy.out,HTy.out,rfl⟩
   case round=>
    obtain ⟨ik,hk,rfl,hKr,hTr,hall⟩:=hrel
    by_cases hlt:ik<g.params.length
    ·have hltx:ik<xs.length:=by have:=HLn.out;omega
     obtain ⟨_,_,he,_,_,hr⟩:=HSl.out
     simp only [Value.slice.injEq] at he
     obtain ⟨rfl,-,rfl⟩:=he
     obtain ⟨xb,xo,rfl,hro⟩:=hr (by intro h;rw [h] at hltx;simp at hltx)
     obtain ⟨_,_,he,_,_,hrp⟩:=HGp.out
     simp only [Value.slice.injEq] at he
     obtain ⟨rfl,-,rfl⟩:=he
     obtain ⟨qb,qo,rfl,hrop⟩:=hrp (by intro h;rw [h] at hlt;simp at hlt)
     obtain ⟨e0a,e0c,hc0,hXI,hxlt⟩:=ye (hro ik xs[ik] (by simp [hltx])) HBW.out
     have hpa:=hrop ik g.params[ik] (by simp [hlt])
     have hBr:Below w0.heap.size w0 wr:=HBW.out.trans (hKr.below (B:=w0.heap.size) HBW.out.size (fun b hb=>by simp only [wy] at hb;subst hb;exact htlo))
     have q0':=jb hBr hpa.1.1
     have q1':=jb hBr hpa.2.1
     have q2':=jb hBr hpa.2.2.1
     have hbp:=k9 wr _ q1'
     have hzl:ik<(xs.zip g.params).length:=by rw [List.length_zip];omega
     have hzk:(xs.zip g.params)[ik]'hzl=(xs[ik],g.params[ik]):=by simp
     have hAT:=x9 (fun x:Expr×z8=>if x.2.kind=0 then !hid p i f x.1 else true) (xs.zip g.params) ik hzl
     have hAF:=ym (fun x:Expr×z8=>if x.2.kind=0 then !hid p i f x.1 else true) (xs.zip g.params) ik hzl
     rw [hzk] at hAT hAF
     rw [hall,Bool.true_and] at hAT
     simp only at hAT hAF
     have HAT:=k8 hAT
     have HAF:=k8 hAF
     have HBr_e0:=k8 (HBr.out xs[ik] _ hXI (fun z hz=>(HDe.out z (List.mem_cons_of_mem _ (jq.2 ⟨xs[ik],List.getElem_mem _,hz⟩))).2))
     have He0:=k8 hc0
     have HEtb:=k8 (show xb≠tb by omega)
     have HKr0:=k8 hKr
     have HTr0:=k8 hTr
     have HIk:=k8 hltx
     clear hAT hAF hzk hr hrp hro hrop hpa hc0 hXI hxlt hall hBr hzl
     generalize xs[ik]=e0 at *
     generalize g.params[ik]=q at *
     obtain ⟨qn,qk,ql⟩:=q
     simp only at q0' q1' q2'
     have hBq:=(wu wr.heap.size wr).alloc (wo _) (.cells #[.string qn,.int .i64 qk,.int .i64 ql] 56)
     have HKr:=k8 (hKr.trans (jd hBq))
     have HTr:=k8 (hTr.below hBq)
     clear hKr hTr hBq
     by_cases hq:qk=0
     ·subst hq
      rw [if_pos rfl] at HAT HAF
      generalize hid p i f e0=B at *
      go_wp2_with fail
      clear q0' q1' q2'
      refine je zi [.is (.pointer (some ⟨vb,0,none⟩)),.is (.pointer (some ⟨w.heap.size,3,none⟩)),.is (.slice (some ⟨xb,xo,none⟩) xs.length c),.is (.int .i64 ik),.is (.pointer (some ⟨xb,xo+ik * 4,none⟩)),.is (.agg #[.int .i64 e0.kind,.int .u64 e0.num,.string e0.name,.slice e0a e0.args.length e0c])] (by kernel_rfl) 6 (by decide) (by kernel_rfl) _ rfl ?_ ?_
      ·refine ⟨?_,?_,?_,?_,?_,?_,trivial⟩
       ·refine jc rfl rfl rfl fun x y5 hB hF hD=>?_
        have e1:slot x 1=.pointer (some ⟨cb,0,none⟩):=hF.at 1 rfl
        have hc:y5.cell? ⟨cb,0,none⟩=some (.pointer (some ⟨vb,0,none⟩)):=(HKr.out.trans (jd hB)).cell HI.out.var (by simpa using HCtb.out)
        clear hB hF
        simp only [execOp,ja,e1]
        first|rfl|(go_simp;try rfl)
       ·refine jc rfl rfl rfl fun x y5 hB hF hD=>?_
        have e2:slot x 2=.pointer (some ⟨w.heap.size,0,none⟩):=hF.at 2 rfl
        clear hB hF
        simp only [execOp,ja,e2]
        first|rfl|(go_simp;try rfl)
       ·refine jc rfl rfl rfl fun x y5 hB hF hD=>?_
        obtain ⟨d0,-⟩:=hD
        have e67:slot x 67=.pointer (some ⟨w.heap.size,3,none⟩):=d0 rfl
        have hc:y5.cell? ⟨w.heap.size,3,none⟩=some (.slice (some ⟨xb,xo,none⟩) xs.length c):=(HKr.out.trans (jd hB)).cell HX3.out (by simpa using HXtb.out)
        clear hB hF
        simp only [execOp,ja,e67]
        first|rfl|(go_simp;try rfl)
       ·refine jc rfl rfl rfl fun x y5 hB hF hD=>?_
        have e3:slot x 3=.int .i64 ik:=hF.at 3 rfl
        clear hB hF
        simp only [execOp,ja,e3]
        first|rfl|(go_simp;try rfl)
       ·refine jc rfl rfl rfl fun x y5 hB hF hD=>?_
        obtain ⟨d0,d1,-⟩:=hD
        have e68:slot x 68=.slice (some ⟨xb,xo,none⟩) xs.length c:=d0 rfl
        have e69:slot x 69=.int .i64 ik:=d1 rfl
        have hik:ik<xs.length:=HIk.out
        clear hB hF
        simp only [execOp,ja,e68,e69]
        first|rfl|(go_simp;try rfl)
       ·refine jc rfl rfl rfl fun x y5 hB hF hD=>?_
        obtain ⟨d0,-⟩:=hD
        have e70:slot x 70=.pointer (some ⟨xb,xo+ik * 4,none⟩):=d0 rfl
        have h0:y5.cell? ⟨xb,xo+ik * 4,none⟩=some (.int .i64 e0.kind):=(HKr.out.trans (jd hB)).cell He0.out.1 (by simpa using HEtb.out)
        have h1:y5.cell? ⟨xb,xo+ik * 4+1,none⟩=some (.int .u64 e0.num):=(HKr.out.trans (jd hB)).cell He0.out.2.1 (by simpa using HEtb.out)
        have h2:y5.cell? ⟨xb,xo+ik * 4+2,none⟩=some (.string e0.name):=(HKr.out.trans (jd hB)).cell He0.out.2.2.1 (by simpa using HEtb.out)
        have h3:y5.cell? ⟨xb,xo+ik * 4+3,none⟩=some (.slice e0a e0.args.length e0c):=(HKr.out.trans (jd hB)).cell He0.out.2.2.2 (by simpa using HEtb.out)
        clear hB hF
        simp only [execOp,ja,e70]
        first|rfl|(go_simp;try rfl)
      ·intro x y5 hB hF hP
       obtain ⟨p0,p1,p2,p3,p4,p5,-⟩:=hP
       have hx:=jj hF [(66,.pointer (some ⟨vb,0,none⟩)),(67,.pointer (some ⟨w.heap.size,3,none⟩)),(68,.slice (some ⟨xb,xo,none⟩) xs.length c),(69,.int .i64 ik),(70,.pointer (some ⟨xb,xo+ik * 4,none⟩)),(71,.agg #[.int .i64 e0.kind,.int .u64 e0.num,.string e0.name,.slice e0a e0.args.length e0c])] rfl ⟨p0,p1,p2,p3,p4,p5,trivial⟩
       have HKy:=k8 (HKr.out.trans (jd hB))
       have HTy:=k8 (HTr.out.below hB)
       clear hB hF p0 p1 p2 p3 p4 p5
       subst hx
       simp only [puts,Act.put,we,wg,wi,wj,wk]
       go_wp2_with fail
       refine (HBr_e0.out y5 HKy.out HTy.out).mono ?_
       rintro e' w5 ⟨hK2,hT2,he2⟩
       have HK5:=k8 (HKy.out.trans hK2)
       have HTd:=k8 hT2
       clear hK2 hT2 HKy HTy
       cases B with
       | true=>
        have HRf:Hid (R=false):=by show _=_;rw [HR.out];exact HAF.out rfl
        clear HAF HAT HR
        simp only [if_true] at he2
        subst he2
        go_wp2
        obtain ⟨q1,q2⟩:=HFin.out w5 HK5.out HTd.out
        exact ⟨rfl,q1,by rw [HRf.out];rfl⟩
       | false=>
        simp only [Bool.false_eq_true,if_false] at he2
        subst he2
        go_wp2_with fail
        go_roundw
        case rel=>exact ⟨ik+1,by omega,by go_num,HK5.out,HTd.out,HAT.out⟩
        case measure=>simp [intOf];omega
     ·have tq:(qk == 0)=false:=by simpa using hq
      rw [if_neg hq] at HAT
      clear HAF hq
      go_wp2_with fail
      go_roundw
      case rel=>exact ⟨ik+1,by omega,by go_num,HKr.out,HTr.out,HAT.out⟩
      case measure=>simp [intOf];omega
    ·have hkk:ik=g.params.length:=by omega
     subst hkk
     have HRt:Hid (R=true):=by
      show _=_
      rw [HR.out]
      have hzz:(xs.zip g.params).take g.params.length=xs.zip g.params:=by rw [ww];rw [List.length_zip];omega
      rw [hzz] at hall
      exact hall
     have HKr:=k8 hKr
     have HTr:=k8 hTr
     clear hall hKr hTr HR
     go_wp2_with fail
     go_end0
     obtain ⟨q1,q2⟩:=HFin.out wr HKr.out HTr.out
     exact ⟨q1,by rw [HRt.out];exact ⟨rfl,q2⟩⟩
 have t5:(k == 5)=false:=by simpa using h5
 rw [keptEx_else _ _ _ _ _ _ _ _ h2 h3 h5]
 clear hde har hx1 hx2 hx3 HBr hBW hsl h2 h3 h5 g1 hSrc hcf
 go_enter Tryz.func77,Tryz.ntmps77
 go_wp2
 go_end0
 obtain ⟨q1,q2⟩:=HFin.out _ HK0.out HTd.out
 exact ⟨q1,rfl,q2⟩
end
section
open Go.RowKit
theorem kept_any {w0:World} {p:Src} {i:Nat} {f:Fun} {vb ab pb sb tb:Nat} {w:World} (hF:kg p) (hWt:wtFs p.funcs≤100000) (hok:∀ ev∈evSs f.body,kh p i ev) (hB0:Below w0.heap.size w0 w) (hv:qj w0 p i f w vb ab pb sb tb) (hs:MapB w sb (secS p i f)) (ht:Told p tb w) :
  Calls Tryz.prog 44 #[.pointer (some ⟨vb,0,none⟩)] w fun e w'=>Kept [tb] w w'∧(if keptF p i f=true then e=.returned (.tuple #[]) else e=.panicked [yu 9]):=by
 obtain ⟨a0,c0,a1,c1,a2,c2,a3,c3,-,-,-,-,-,-,g6,-,-,-,-,-,hFn⟩:=hv.open
 have hsl:Sl 6 (j9 w0) (.slice a3 f.body.length c3) f.body:=by
  obtain ⟨_,_,_,_,he,_,_,h⟩:=hFn
  simp only [Value.agg.injEq,List.toArray_inj,Array.mk.injEq,List.cons.injEq,Value.slice.injEq,true_and,and_true] at he
  obtain ⟨-,rfl,rfl⟩:=he
  exact h
 have hbl:=k9 w _ g6
 have htw:=ht.lt
 have hBl:=(wu w.heap.size w).alloc (wo _) (.cells #[.pointer (some ⟨vb,0,none⟩)] 102)
 have hL:Looks w0 [tb] 9 (fun (_:Unit) w'=>SInv w0 p i f vb ab pb sb tb w.heap.size (secS p i f) w') (fun _ ev=>optB (yy p i f (hid p i f) ev)) (fun ev=>kh p i ev) 75 77 #[.pointer (some ⟨w.heap.size,0,none⟩)] #[.pointer (some ⟨w.heap.size,0,none⟩)]:=
  {lo:=fun b hb=>by simp only [wy] at hb;subst hb;exact hv.lo.2.2.2.2
   inv:=fun s w w' h hb=>h.below hb
   e1:=fun _ _=>by kernel_rfl
   e2:=fun _ _=>by kernel_rfl
   stmt:=fun s x v w1 hI hb hok hx=>kept1_any hF hWt hb hI (by omega) x v hx hok
   expr:=fun s x v w1 hI hb hok hx=>kept2_any hF hWt hb hI (by omega) x v hx hok }
 have HE:=k8 (each_any hL (wtSs f.body) f.body _ _ () (wo _) hsl (hB0.trans (hBl.mono hB0.size)) (fun b hb=>by simp only [wy] at hb;subst hb;simp;omega) ⟨hv.below hBl,by simp,j5.below hs hBl,ht.below hBl⟩ hok)
 have HB:=k8 hBl
 have hmf:∀ (fn:Fn) (first cap:Array Value) (w:World),(Instr.makeFunc fn first cap).run Tryz.prog w=.ok (.func fn first cap) w:=fun _ _ _ _=>rfl
 have hFo:yd (fun (_:Unit) ev=>optB (yy p i f (hid p i f) ev)) () (evSs f.body)=optB (keptF p i f):=foldO_all (yy p i f (hid p i f)) (evSs f.body)
 generalize keptF p i f=b at *
 have HF:=k8 hFo
 clear hL hBl hsl hFn hv hB0 hFo hs ht hok hF hWt
 go_enter Tryz.func44,Tryz.ntmps44
 go_wp2_with fail
 refine HE.out.mono ?_
 rintro e w1 ⟨hK,he⟩
 have HB1:=k8 ((jd (M:=[tb]) HB.out).trans hK)
 rw [HF.out] at he
 clear hK HF HE
 cases b with
 | true=>
  obtain ⟨rfl,-⟩:e=.returned (.tuple #[])∧_:=he
  go_wp2
  go_end0
  exact ⟨HB1.out,rfl⟩
 | false=>
  obtain rfl:e=.panicked [yu 9]:=he
  go_wp2
  exact ⟨rfl,HB1.out,rfl⟩
structure CostCtx (w0:World) (p:Src) (i:Nat) (f:Fun) (T:List Int) (ob vc eb nb na np ns nt:Nat) (ov:Value) (w:World):Prop where
 view:qj w0 p i f w nb na np ns nt
 var:w.cell? ⟨vc,0,none⟩=some (.pointer (some ⟨nb,0,none⟩))
 out:w.cell? ⟨ob,0,none⟩=some ov
 row:∀ j,j<i→∃ rb rc,ov=.slice (some ⟨rb,0,none⟩) i rc∧w.cell? ⟨rb,j,none⟩=some (.int .i64 (T.getD j 0))
 expr:w.cell? ⟨eb,0,none⟩=some (.func (.func 79) #[] #[.pointer (some ⟨ob,0,none⟩),.pointer (some ⟨vc,0,none⟩),.pointer (some ⟨eb,0,none⟩)])
theorem CostCtx.below {w0:World} {p:Src} {i:Nat} {f:Fun} {T:List Int} {ob vc eb nb na np ns nt:Nat} {ov:Value} {w w':World} (h:CostCtx w0 p i f T ob vc eb nb na np ns nt ov w) (hb:Below w.heap.size w w'):CostCtx w0 p i f T ob vc eb nb na np ns nt ov w':=
 ⟨h.view.below hb,jb hb h.var,jb hb h.out,fun j hj=>by obtain ⟨rb,rc,h1,h2⟩:=h.row j hj;exact ⟨rb,rc,h1,jb hb h2⟩,jb hb h.expr⟩
def CostsOk (T:List Int):Prop:=∀ j,0≤T.getD j 0∧T.getD j 0≤4001
theorem costE_eq (p:Src) (i:Nat) (T:List Int) (k n:Int) (s:ByteArray) (xs:List Expr):costE p i T ⟨k,n,s,xs⟩=min (1+(if k=5 then (match yf p i s with|none=>0|some j=>T.getD j 0) else 0)+qh p i T xs) 4001:=by unfold costE;cases yf p i s<;>rfl
theorem costEs_take (p:Src) (i:Nat) (T:List Int):∀ (xs:List Expr) (k:Nat) (h:k<xs.length),qh p i T (xs.take (k+1))=qh p i T (xs.take k)+costE p i T xs[k]
 | [],_,h=>by simp at h
 | x::xs,0,_=>by simp [qh]
 | x::xs,k+1,h=>by
  have:=costEs_take p i T xs k (by simpa using h)
  simp only [List.take_succ_cons,qh,List.getElem_cons_succ]
  rw [this]
  omega
theorem xg {p:Src} {i:Nat} {T:List Int} (hT:CostsOk T):∀ (N:Nat) (x:Expr),x.wt≤N→0≤costE p i T x∧costE p i T x≤4001:=by
 intro N
 induction N with
 | zero=>intro x h;obtain ⟨k,n,s,xs⟩:=x;rw [Expr.wt] at h;omega
 | succ N ih=>
  intro x h
  obtain ⟨k,n,s,xs⟩:=x
  rw [Expr.wt] at h
  have hs:∀ (l:List Expr),wtEs l≤N→0≤qh p i T l:=by
   intro l
   induction l with
   | nil=>intro _;simp [qh]
   | cons y l ihl=>
    intro h
    rw [wtEs] at h
    rw [qh]
    have h1:=ih y (by omega)
    have h2:=ihl (by omega)
    omega
  have h1:=hs xs (by omega)
  rw [costE_eq]
  have h2:0≤(if k=5 then (match yf p i s with|none=>0|some j=>T.getD j 0) else (0:Int)):=by
   split
   ·split
    ·omega
    ·exact (hT _).1
   ·omega
  omega
theorem qd {p:Src} {i:Nat} {T:List Int} (hT:CostsOk T):∀ (l:List Expr),0≤qh p i T l∧qh p i T l≤4001 * l.length
 | []=>by simp [qh]
 | x::l=>by
  have h1:=xg (p:=p) (i:=i) hT _ x (wo _)
  have h2:=qd (p:=p) (i:=i) hT l
  rw [qh,List.length_cons]
  omega
theorem cost1_any {w0:World} {p:Src} {i:Nat} {f:Fun} {T:List Int} {ob vc eb nb na np ns nt:Nat} {ov:Value} (hT:CostsOk T) :
  ∀ (N:Nat) (x:Expr) (v:Value) (w:World),x.wt≤N→Below w0.heap.size w0 w→CostCtx w0 p i f T ob vc eb nb na np ns nt ov w→(∀ y∈y4 x,exprFine p i y)→zl w0 x v →
   Calls Tryz.prog 79 #[v,.pointer (some ⟨ob,0,none⟩),.pointer (some ⟨vc,0,none⟩),.pointer (some ⟨eb,0,none⟩)] w (Ret w (.int .i64 (costE p i T x))):=by
 intro N
 induction N with
 | zero=>intro x v w h;obtain ⟨k,n,s,xs⟩:=x;rw [Expr.wt] at h;omega
 | succ N ih=>
 intro x v w hN hB0 hctx hde hx
 obtain ⟨k,n,s,xs⟩:=x
 rw [Expr.wt] at hN
 obtain ⟨a,c,rfl,hsl⟩:=qu hx
 simp only at hsl ⊢
 have hBl:=(wu w.heap.size w).alloc (wo _) (.cells #[.int .i64 k,.int .u64 n,.string s,.slice a xs.length c] 53)
 have hx0:(w.alloc (.cells #[.int .i64 k,.int .u64 n,.string s,.slice a xs.length c] 53)).cell? ⟨w.heap.size,0,none⟩=some (.int .i64 k):=by simp
 have hx2:(w.alloc (.cells #[.int .i64 k,.int .u64 n,.string s,.slice a xs.length c] 53)).cell? ⟨w.heap.size,2,none⟩=some (.string s):=by simp
 have hx3:(w.alloc (.cells #[.int .i64 k,.int .u64 n,.string s,.slice a xs.length c] 53)).cell? ⟨w.heap.size,3,none⟩=some (.slice a xs.length c):=by simp
 have HX2:=k8 hx2
 have HX3:=k8 hx3
 have HB:=k8 hBl
 have HBW:=k8 (hB0.trans (hBl.mono hB0.size))
 have HC:=k8 (hctx.below hBl)
 have HSl:=k8 hsl
 have hcf:∀ (args:Array Value) (w:World),(callFunc 79 args).run Tryz.prog w=.ok (.enter 79 args) w:=fun _ _=>by kernel_rfl
 rw [qq] at hde
 simp only at hde
 have har:arityE ⟨k,n,s,xs⟩:=(hde ⟨k,n,s,xs⟩ (by simp)).1
 have hfc:kw p i ⟨k,n,s,xs⟩:=(hde ⟨k,n,s,xs⟩ (by simp)).2
 have h6:xs.length≤6:=by
  obtain ⟨q0,q1,-,q2,-⟩:=har
  simp only at q0 q1 q2
  have hk7:k=0∨k=1∨k=2∨k=3∨k=4∨k=5∨k=6:=by omega
  have:(jk k).most≤6:=by rcases hk7 with rfl|rfl|rfl|rfl|rfl|rfl|rfl<;>decide
  omega
 have H6:=k8 h6
 have HDe:=k8 hde
 have HTok:=k8 hT
 have hcost:=costE_eq p i T k n s xs
 clear hx hB0 hBl hde har hsl hctx h6
 by_cases h5:k=5
 ·subst h5
  obtain ⟨j,g,hj,hg,-⟩:=hfc rfl
  simp only at hj
  have hjI:calledI p i s=j∧j<i:=by
   rcases xh p i s with ⟨h1,h2⟩|⟨j',h1,h2,h3,_⟩
   ·rw [hj] at h1;cases h1
   ·rw [hj] at h1;cases h1;exact ⟨h2,h3⟩
  have HJ:=k8 hjI.1
  have HJi:=k8 hjI.2
  obtain ⟨rb,rc,rfl,hrow⟩:=HC.out.row j hjI.2
  have HRow:=k8 hrow
  have HOut:=k8 HC.out.out
  rw [if_pos rfl,hj] at hcost
  simp only at hcost
  have htr:=hT j
  obtain ⟨t,ht⟩:∃ t,T.getD j 0=t:=⟨_,rfl⟩
  rw [ht] at HRow hcost htr
  have HTr:=k8 htr
  have HCost:=k8 hcost
  clear hjI hj hg hrow htr ht hcost hfc hT hx2 hx3
  go_enter Tryz.func79,Tryz.ntmps79
  go_wp2_with fail
  refine je zi [.is (.int .i64 1),.is (.slice (some ⟨rb,0,none⟩) i rc),.is (.pointer (some ⟨nb,0,none⟩)),.is (.pointer (some ⟨w.heap.size,2,none⟩)),.is (.string s),.is (.int .i64 j),.is (.pointer (some ⟨rb,j,none⟩)),.is (.int .i64 t),.is (.int .i64 (1+t))] (by kernel_rfl) 9 (by decide) (by kernel_rfl) _ rfl ?_ ?_
  ·refine ⟨?_,?_,?_,?_,?_,?_,?_,?_,?_,trivial⟩
   ·refine jc rfl rfl rfl fun x y hB hF hD=>?_
    have e6:slot x 6=.int .i64 1:=hF.at 6 rfl
    clear hB hF
    simp only [execOp,ja,e6]
    first|rfl|(go_simp;try rfl)
   ·refine jc rfl rfl rfl fun x y hB hF hD=>?_
    have e1:slot x 1=.pointer (some ⟨ob,0,none⟩):=hF.at 1 rfl
    have hc:y.cell? ⟨ob,0,none⟩=some (.slice (some ⟨rb,0,none⟩) i rc):=jb hB HOut.out
    clear hB hF
    simp only [execOp,ja,e1]
    first|rfl|(go_simp;try rfl)
   ·refine jc rfl rfl rfl fun x y hB hF hD=>?_
    have e2:slot x 2=.pointer (some ⟨vc,0,none⟩):=hF.at 2 rfl
    have hc:y.cell? ⟨vc,0,none⟩=some (.pointer (some ⟨nb,0,none⟩)):=jb hB HC.out.var
    clear hB hF
    simp only [execOp,ja,e2]
    first|rfl|(go_simp;try rfl)
   ·refine jc rfl rfl rfl fun x y hB hF hD=>?_
    have e4:slot x 4=.pointer (some ⟨w.heap.size,0,none⟩):=hF.at 4 rfl
    clear hB hF
    simp only [execOp,ja,e4]
    first|rfl|(go_simp;try rfl)
   ·refine jc rfl rfl rfl fun x y hB hF hD=>?_
    obtain ⟨d0,-⟩:=hD
    have e15:slot x 15=.pointer (some ⟨w.heap.size,2,none⟩):=d0 rfl
    have hc:y.cell? ⟨w.heap.size,2,none⟩=some (.string s):=jb hB HX2.out
    clear hB hF
    simp only [execOp,ja,e15]
    first|rfl|(go_simp;try rfl)
   ·refine jn (f:=78) rfl rfl fun x y hB hF hD=>⟨#[.pointer (some ⟨nb,0,none⟩),.string s],?_,?_⟩
    ·obtain ⟨d0,d1,-⟩:=hD
     have e1:slot x 14=.pointer (some ⟨nb,0,none⟩):=d0 rfl
     have e2:slot x 16=.string s:=d1 rfl
     have g1:=jh e1
     have g2:=jh e2
     clear hB hF e1 e2
     simp only [execOp]
     simp [go_sem,g1,g2]
    ·refine (called_any (HBW.out.trans (hB.mono HBW.out.size)) (HC.out.view.below hB) s).mono ?_
     rintro e w' ⟨rfl,hb⟩
     exact ⟨hb,.inl ⟨_,rfl,by rw [HJ.out];rfl⟩⟩
   ·refine jc rfl rfl rfl fun x y hB hF hD=>?_
    obtain ⟨d0,d1,-⟩:=hD
    have e13:slot x 13=.slice (some ⟨rb,0,none⟩) i rc:=d0 rfl
    have e17:slot x 17=.int .i64 j:=d1 rfl
    have hlt:j<i:=HJi.out
    clear hB hF
    simp only [execOp,ja,e13,e17]
    first|rfl|(go_simp;try rfl)
   ·refine jc rfl rfl rfl fun x y hB hF hD=>?_
    obtain ⟨d0,-⟩:=hD
    have e18:slot x 18=.pointer (some ⟨rb,j,none⟩):=d0 rfl
    have hc:y.cell? ⟨rb,j,none⟩=some (.int .i64 t):=jb hB HRow.out
    clear hB hF
    simp only [execOp,ja,e18]
    first|rfl|(go_simp;try rfl)
   ·refine jc rfl rfl rfl fun x y hB hF hD=>?_
    obtain ⟨d0,d1,-⟩:=hD
    have e12:slot x 12=.int .i64 1:=d0 rfl
    have e19:slot x 19=.int .i64 t:=d1 rfl
    have hw:IntKind.i64.wrap (1+t)=1+t:=by rw [IntKind.wrap_i64];have:=HTr.out;omega
    clear hB hF
    simp only [execOp,ja,e12,e19]
    go_simp
    first|done|exact hw|(rw [hw])
  ·intro x y hB hF hP
   obtain ⟨p0,p1,p2,p3,p4,p5,p6,p7,p8,-⟩:=hP
   have hx:=jj hF [(12,.int .i64 1),(13,.slice (some ⟨rb,0,none⟩) i rc),(14,.pointer (some ⟨nb,0,none⟩)),(15,.pointer (some ⟨w.heap.size,2,none⟩)),(16,.string s),(17,.int .i64 j),(18,.pointer (some ⟨rb,j,none⟩)),(19,.int .i64 t),(20,.int .i64 (1+t))] rfl ⟨p0,p1,p2,p3,p4,p5,p6,p7,p8,trivial⟩
   have HBy:=k8 (HBW.out.trans (hB.mono HBW.out.size))
   have HBw:=k8 (HB.out.trans (hB.mono HB.out.size))
   have HCy:=k8 (HC.out.below hB)
   have hx0:=jb hB HX2.out
   have hx3:=jb hB HX3.out
   have hxl:=k9 y _ hx0
   clear hB hF p0 p1 p2 p3 p4 p5 p6 p7 p8
   subst hx
   simp only [puts,Act.put,we,wg,wi,wj,wk]
   clear hx0
   go_wp2_with fail
   go_loopw [6,24] (fun nv iv wr=>∃ k:Nat,k≤xs.length∧iv=.int .i64 k∧nv=.int .i64 (1+t+qh p i T (xs.take k))∧Below y.heap.size y wr) (fun _ iv _=>xs.length - (intOf iv).toNat)
   case atStart=>exact ⟨0,gj _,rfl,by simp [qh],wu _ _⟩
   case round=>
    obtain ⟨k,hk,rfl,rfl,hKr⟩:=hrel
    have hrg:=qd (p:=p) (i:=i) HTok.out (xs.take k)
    rw [List.length_take] at hrg
    by_cases hlt:k<xs.length
    ·obtain ⟨_,_,he,_,_,hr⟩:=HSl.out
     simp only [Value.slice.injEq] at he
     obtain ⟨rfl,-,rfl⟩:=he
     obtain ⟨xb,xo,rfl,hro⟩:=hr (by intro h;rw [h] at hlt;simp at hlt)
     have hBr:=HBy.out.trans (hKr.mono HBy.out.size)
     obtain ⟨e0a,e0c,hc0,hXI,hxlt⟩:=ye (hro k xs[k] (by simp [hlt])) hBr
     have hTk:=costEs_take p i T xs k hlt
     have hbb:=k9 wr _ hc0.1
     have hBx:=(wu wr.heap.size wr).alloc (wo _) (.cells #[.int .i64 xs[k].kind,.int .u64 xs[k].num,.string xs[k].name,.slice e0a xs[k].args.length e0c] 53)
     have hcr:=xg (p:=p) (i:=i) HTok.out _ xs[k] (wo _)
     have hBrx:=hBr.trans (hBx.mono hBr.size)
     have HIH1:=k8 (ih xs[k] _ _ (by have:=mem_wt (List.getElem_mem hlt);omega) hBrx ((HCy.out.below hKr).below hBx) (fun y hy=>HDe.out y (List.mem_cons_of_mem _ (jq.2 ⟨xs[k],List.getElem_mem _,hy⟩))) hXI)
     have HKx:=k8 (hKr.trans (hBx.mono hKr.size))
     have hexp:=jb hKr HCy.out.expr
     have hel:=k9 wr _ hexp
     have hTk':=hTk
     obtain ⟨q0,q1,q2,q3⟩:=hc0
     clear hr hro hXI hxlt hBx hBrx hBr hTk
     have HTk:=k8 hTk'
     generalize xs[k]=x0 at *
     clear hTk' hKr
     go_wp2_with fail
     refine HIH1.out.mono ?_
     rintro e w2 ⟨rfl,hB2⟩
     have HB2:=k8 (HKx.out.trans (hB2.mono HKx.out.size))
     clear hB2 HIH1 q0 q1 q2 q3 hexp
     have h6:=H6.out
     have htr:=HTr.out
     go_wp2_with fail
     go_roundw
     case rel=>
      refine ⟨k+1,hlt,by go_num,?_,HB2.out⟩
      rw [HTk.out]
      congr 1
      omega
     case measure=>simp [intOf];omega
    ·have hkk:k=xs.length:=by omega
     subst hkk
     have hmin:costE p i T ⟨5,n,s,xs⟩=min (1+t+qh p i T xs) 4001:=HCost.out
     rw [ww (wo _)] at hrg ⊢
     have HF:=k8 (HBw.out.trans (hKr.mono HBw.out.size))
     have HMin:=k8 hmin
     clear hmin hKr
     go_wp2_with fail
     go_ret
     exact ⟨by rw [HMin.out];rfl,HF.out⟩
 have t5:(k == 5)=false:=by simpa using h5
 rw [if_neg h5] at hcost
 have HCost:=k8 hcost
 have HTr:Hid (0≤(0:Int)∧(0:Int)≤4001):=⟨by omega,by omega⟩
 have HBy:=HBW
 have HBw:=HB
 have HCy:=HC
 clear hcost hT hx2 hfc h5 HX2
 go_enter Tryz.func79,Tryz.ntmps79
 go_wp2_with fail
 generalize hWW:w.alloc (.cells #[.int .i64 k,.int .u64 n,.string s,.slice a xs.length c] 53)=W at *
 clear hWW
 go_loopw [6,24] (fun nv iv wr=>∃ k:Nat,k≤xs.length∧iv=.int .i64 k∧nv=.int .i64 (1+0+qh p i T (xs.take k))∧Below W.heap.size W wr) (fun _ iv _=>xs.length - (intOf iv).toNat)
 case atStart=>exact ⟨0,gj _,rfl,by simp [qh],wu _ _⟩
 case round=>
  obtain ⟨k,hk,rfl,rfl,hKr⟩:=hrel
  have hrg:=qd (p:=p) (i:=i) HTok.out (xs.take k)
  rw [List.length_take] at hrg
  by_cases hlt:k<xs.length
  ·obtain ⟨_,_,he,_,_,hr⟩:=HSl.out
   simp only [Value.slice.injEq] at he
   obtain ⟨rfl,-,rfl⟩:=he
   obtain ⟨xb,xo,rfl,hro⟩:=hr (by intro h;rw [h] at hlt;simp at hlt)
   have hBr:=HBy.out.trans (hKr.mono HBy.out.size)
   obtain ⟨e0a,e0c,hc0,hXI,hxlt⟩:=ye (hro k xs[k] (by simp [hlt])) hBr
   have hTk:=costEs_take p i T xs k hlt
   have hbb:=k9 wr _ hc0.1
   have hBx:=(wu wr.heap.size wr).alloc (wo _) (.cells #[.int .i64 xs[k].kind,.int .u64 xs[k].num,.string xs[k].name,.slice e0a xs[k].args.length e0c] 53)
   have hcr:=xg (p:=p) (i:=i) HTok.out _ xs[k] (wo _)
   have hBrx:=hBr.trans (hBx.mono hBr.size)
   have HIH1:=k8 (ih xs[k] _ _ (by have:=mem_wt (List.getElem_mem hlt);omega) hBrx ((HCy.out.below hKr).below hBx) (fun y hy=>HDe.out y (List.mem_cons_of_mem _ (jq.2 ⟨xs[k],List.getElem_mem _,hy⟩))) hXI)
   have HKx:=k8 (hKr.trans (hBx.mono hKr.size))
   have hexp:=jb hKr HCy.out.expr
   have hel:=k9 wr _ hexp
   have hTk':=hTk
   obtain ⟨q0,q1,q2,q3⟩:=hc0
   clear hr hro hXI hxlt hBx hBrx hBr hTk
   have HTk:=k8 hTk'
   generalize xs[k]=x0 at *
   clear hTk' hKr
   go_wp2_with fail
   refine HIH1.out.mono ?_
   rintro e w2 ⟨rfl,hB2⟩
   have HB2:=k8 (HKx.out.trans (hB2.mono HKx.out.size))
   clear hB2 HIH1 q0 q1 q2 q3 hexp
   have h6:=H6.out
   have htr:=HTr.out
   go_wp2_with fail
   go_roundw
   case rel=>
    refine ⟨k+1,hlt,by go_num,?_,HB2.out⟩
    rw [HTk.out]
    congr 1
    omega
   case measure=>simp [intOf];omega
  ·have hkk:k=xs.length:=by omega
   subst hkk
   have hmin:costE p i T ⟨k,n,s,xs⟩=min (1+0+qh p i T xs) 4001:=HCost.out
   rw [ww (wo _)] at hrg ⊢
   have HF:=k8 (HBw.out.trans (hKr.mono HBw.out.size))
   have HMin:=k8 hmin
   clear hmin hKr
   go_wp2_with fail
   go_ret
   exact ⟨by rw [HMin.out];rfl,HF.out⟩
end
section
open Go.RowKit
theorem costS_eq (p:Src) (i:Nat) (T:List Int) (n k num:Int) (s:ByteArray) (xs:List Expr) (th el:List Stmt):costS p i T n ⟨k,s,num,xs,th,el⟩=min (n+1+qh p i T xs+(if k=3 then num * (1+zz p i T 0 th) else zz p i T 0 th+zz p i T 0 el)) 4001:=by rw [costS]
theorem costSs_take (p:Src) (i:Nat) (T:List Int):∀ (l:List Stmt) (n:Int) (k:Nat) (h:k<l.length),zz p i T n (l.take (k+1))=costS p i T (zz p i T n (l.take k)) l[k]
 | [],_,_,h=>by simp at h
 | x::l,n,0,_=>by simp [zz]
 | x::l,n,k+1,h=>by
  have:=costSs_take p i T l (costS p i T n x) k (by simpa using h)
  simp only [List.take_succ_cons,zz,List.getElem_cons_succ]
  exact this
theorem ki {p:Src} {i:Nat} {T:List Int} (hT:CostsOk T):∀ (N:Nat) (l:List Stmt) (n:Int),wtSs l≤N→(∀ ev∈evSs l,kh p i ev)→0≤n→n≤4001→0≤zz p i T n l∧zz p i T n l≤4001:=by
 intro N
 induction N with
 | zero=>
  intro l n h _ h0 h1
  cases l with
  | nil=>rw [zz];exact ⟨h0,h1⟩
  | cons x l=>obtain ⟨k,s,n,xs,t,e⟩:=x;simp only [wtSs,Stmt.wt] at h;omega
 | succ N ih=>
  intro l
  induction l with
  | nil=>intro n _ _ h0 h1;rw [zz];exact ⟨h0,h1⟩
  | cons x l ihl=>
   intro n h hev h0 h1
   have hevx:∀ ev∈evS x,kh p i ev:=fun ev he=>hev ev (by rw [evSs];simp [he])
   have hevl:∀ ev∈evSs l,kh p i ev:=fun ev he=>hev ev (by rw [evSs];simp [he])
   obtain ⟨k,s,num,xs,th,el⟩:=x
   rw [wtSs,Stmt.wt] at h
   rw [zz]
   have ha:=(hevx (.inl ⟨k,s,num,xs,th,el⟩) (by rw [yz];simp)).1
   rw [yz] at hevx
   simp only [gh,gi,List.mem_map] at hevx
   have h2:=ih th 0 (by omega) (fun ev he=>hevx ev (.inr (.inl (.inr he)))) (by omega) (by omega)
   have h3:=ih el 0 (by omega) (fun ev he=>hevx ev (.inr (.inr he))) (by omega) (by omega)
   have h4:=qd (p:=p) (i:=i) hT xs
   refine ihl _ (by omega) hevl ?_ ?_
   ·rw [costS_eq]
    split
    ·rename_i hk
     have:=ha.2.2.2.2.1 hk
     simp only at this
     have h5:0≤num * (1+zz p i T 0 th):=Int.mul_nonneg (by omega) (by omega)
     omega
    ·omega
   ·rw [costS_eq];omega
theorem cost2_any {w0:World} {p:Src} {i:Nat} {f:Fun} {T:List Int} {ob vc eb bb nb na np ns nt:Nat} {ov:Value} (hT:CostsOk T) :
  ∀ (N:Nat) (l:List Stmt) (v:Value) (w:World),wtSs l≤N→Below w0.heap.size w0 w→CostCtx w0 p i f T ob vc eb nb na np ns nt ov w→w.cell? ⟨bb,0,none⟩=some (.func (.func 80) #[] #[.pointer (some ⟨eb,0,none⟩),.pointer (some ⟨bb,0,none⟩)])→(∀ ev∈evSs l,kh p i ev)→Sl 6 (j9 w0) v l →
   Calls Tryz.prog 80 #[v,.pointer (some ⟨eb,0,none⟩),.pointer (some ⟨bb,0,none⟩)] w (Ret w (.int .i64 (zz p i T 0 l))):=by
 intro N
 induction N with
 | zero=>
  intro l v w h
  cases l with
  | cons x l=>obtain ⟨k,s,n,xs,t,e⟩:=x;simp only [wtSs,Stmt.wt] at h;omega
  | nil=>
   intro _ _ _ _ hsl
   obtain ⟨a,c,rfl,hc,hl,-⟩:=hsl
   have he:zz p i T 0 []=0:=by rw [zz]
   rw [he]
   simp only [List.length_nil]
   go_enter Tryz.func80,Tryz.ntmps80
   go_wp2_with fail
   go_loopw [5,12] (fun nv iv wr=>iv=.int .i64 0∧nv=.int .i64 0∧wr=w) (fun _ iv _=>0)
   case atStart=>exact ⟨rfl,rfl,rfl⟩
   case round=>
    obtain ⟨rfl,rfl,rfl⟩:=hrel
    go_wp2
    go_ret
    exact ⟨rfl,wu _ _⟩
 | succ N ih=>
 intro l v w hN hB0 hctx hbb hev hsl
 obtain ⟨la,lc,rfl,hcap,hlen,hr⟩:=hsl
 have HCtx:=k8 hctx
 have HBB:=k8 hbb
 have HB0:=k8 hB0
 have HEv:=k8 hev
 have HR:=k8 hr
 have HTok:=k8 hT
 have hcf:∀ (args:Array Value) (w:World),(callFunc 80 args).run Tryz.prog w=.ok (.enter 80 args) w:=fun _ _=>by kernel_rfl
 have hcf1:∀ (args:Array Value) (w:World),(callFunc 79 args).run Tryz.prog w=.ok (.enter 79 args) w:=fun _ _=>by kernel_rfl
 clear hctx hbb hB0 hev hr hT
 go_enter Tryz.func80,Tryz.ntmps80
 go_wp2_with fail
 go_loopw [5,12] (fun nv iv wr=>∃ k:Nat,k≤l.length∧iv=.int .i64 k∧nv=.int .i64 (zz p i T 0 (l.take k))∧Below w.heap.size w wr) (fun _ iv _=>l.length - (intOf iv).toNat)
 case atStart=>exact ⟨0,gj _,rfl,by simp [zz],wu _ _⟩
 case round=>
  obtain ⟨k,hk,rfl,rfl,hKr⟩:=hrel
  have hrg:=ki (p:=p) (i:=i) HTok.out _ (l.take k) 0 (wo _) (fun ev he=>HEv.out ev (by
   rw [yx] at he ⊢
   obtain ⟨x,hx,he⟩:=he
   exact ⟨x,List.mem_of_mem_take hx,he⟩)) (by omega) (by omega)
  by_cases hlt:k<l.length
  ·obtain ⟨b,o,rfl,hro⟩:=HR.out (by intro h;rw [h] at hlt;simp at hlt)
   obtain ⟨x0,z0,x1,z1,x2,z2,h0,h1,h2,h3,h4,h5,hSI,hXs,hXt,hXe⟩:=stmtIs_at (hro k l[k] (by simp [hlt]))
   have hBr:=HB0.out.trans (hKr.mono HB0.out.size)
   have h0':=jb hBr h0
   have h1':=jb hBr h1
   have h2':=jb hBr h2
   have h3':=jb hBr h3
   have h4':=jb hBr h4
   have h5':=jb hBr h5
   have hbl:=k9 wr _ h0'
   have hTk:=costSs_take p i T l 0 k hlt
   have hw:=mem_wtS (List.getElem_mem hlt)
   have hevx:∀ ev∈evS l[k],kh p i ev:=fun ev he=>HEv.out ev (yx.2 ⟨l[k],List.getElem_mem _,he⟩)
   have HTk:=k8 hTk
   clear hTk hro h0 h1 h2 h3 h4 h5 hSI
   generalize l[k]=x at *
   generalize zz p i T 0 (l.take k)=n0 at *
   obtain ⟨xk,s,num,xs,xt,xe⟩:=x
   rw [Stmt.wt] at hw
   simp only at h0' h1' h2' h3' h4' h5' hXs hXt hXe
   have har:=(hevx (.inl ⟨xk,s,num,xs,xt,xe⟩) (by rw [yz];simp)).1
   have hdex:=(hevx (.inl ⟨xk,s,num,xs,xt,xe⟩) (by rw [yz];simp)).2
   simp only at hdex
   rw [yz] at hevx
   simp only [gh,gi,List.mem_map] at hevx
   have hevt:∀ ev∈evSs xt,kh p i ev:=fun ev he=>hevx ev (.inr (.inl (.inr he)))
   have heve:∀ ev∈evSs xe,kh p i ev:=fun ev he=>hevx ev (.inr (.inr he))
   have hl2:xs.length≤2:=by
    obtain ⟨q0,q1,-,q2,-⟩:=har
    simp only at q0 q1 q2
    have hk5:xk=0∨xk=1∨xk=2∨xk=3∨xk=4:=by omega
    have:(js xk).most≤2:=by rcases hk5 with rfl|rfl|rfl|rfl|rfl<;>decide
    omega
   have HL2:=k8 hl2
   have HXs:=k8 hXs
   have HDe:=k8 hdex
   have hcs:=costS_eq p i T n0 xk num s xs xt xe
   have hr1:=ki (p:=p) (i:=i) HTok.out _ xt 0 (wo _) hevt (by omega) (by omega)
   have hr2:=ki (p:=p) (i:=i) HTok.out _ xe 0 (wo _) heve (by omega) (by omega)
   have hre:=qd (p:=p) (i:=i) HTok.out xs
   have hBx:=(wu wr.heap.size wr).alloc (wo _) (.cells #[.int .i64 xk,.string s,.int .i64 num,.slice x0 xs.length z0,.slice x1 xt.length z1,.slice x2 xe.length z2] 58)
   have HWb:=k8 (hKr.trans (hBx.mono hKr.size))
   have HB0W:=k8 (hBr.trans (hBx.mono hBr.size))
   have HCt:=k8 ((HCtx.out.below hKr).below hBx)
   have HBBw:=k8 (jb hBx (jb hKr HBB.out))
   have hC1:=fun (y:World) (hb:Below (wr.alloc (.cells #[.int .i64 xk,.string s,.int .i64 num,.slice x0 xs.length z0,.slice x1 xt.length z1,.slice x2 xe.length z2] 58)).heap.size (wr.alloc (.cells #[.int .i64 xk,.string s,.int .i64 num,.slice x0 xs.length z0,.slice x1 xt.length z1,.slice x2 xe.length z2] 58)) y)=>
    ih xt _ y (by omega) (HB0W.out.trans (hb.mono HB0W.out.size)) (HCt.out.below hb) (jb hb HBBw.out) hevt hXt
   have hC2:=fun (y:World) (hb:Below (wr.alloc (.cells #[.int .i64 xk,.string s,.int .i64 num,.slice x0 xs.length z0,.slice x1 xt.length z1,.slice x2 xe.length z2] 58)).heap.size (wr.alloc (.cells #[.int .i64 xk,.string s,.int .i64 num,.slice x0 xs.length z0,.slice x1 xt.length z1,.slice x2 xe.length z2] 58)) y)=>
    ih xe _ y (by omega) (HB0W.out.trans (hb.mono HB0W.out.size)) (HCt.out.below hb) (jb hb HBBw.out) heve hXe
   have HCC1:=k8 hC1
   have HCC2:=k8 hC2
   have hnum:xk=3→1≤num∧num≤64:=har.2.2.2.2.1
   have HNum:=k8 hnum
   have HCs0:=k8 hcs
   have HRE:=k8 hre
   have HR1:=k8 hr1
   have HR2:=k8 hr2
   have HRN0:=k8 hrg
   generalize zz p i T 0 xt=B1 at *
   generalize zz p i T 0 xe=B2 at *
   have hwn:IntKind.i64.wrap (n0+1)=n0+1:=by rw [IntKind.wrap_i64];omega
   clear har hdex hevx hevt heve hl2 hXs hXt hXe hcs hr1 hr2 hre hC1 hC2 hnum hBr hBx hw hKr
   go_wp2_with fail
   have HX0:=k8 (show (wr.alloc (.cells #[.int .i64 xk,.string s,.int .i64 num,.slice x0 xs.length z0,.slice x1 xt.length z1,.slice x2 xe.length z2] 58)).cell? ⟨wr.heap.size,0,none⟩=some (.int .i64 xk) by simp)
   have HX2:=k8 (show (wr.alloc (.cells #[.int .i64 xk,.string s,.int .i64 num,.slice x0 xs.length z0,.slice x1 xt.length z1,.slice x2 xe.length z2] 58)).cell? ⟨wr.heap.size,2,none⟩=some (.int .i64 num) by simp)
   have HX4:=k8 (show (wr.alloc (.cells #[.int .i64 xk,.string s,.int .i64 num,.slice x0 xs.length z0,.slice x1 xt.length z1,.slice x2 xe.length z2] 58)).cell? ⟨wr.heap.size,4,none⟩=some (.slice x1 xt.length z1) by simp)
   have HX5:=k8 (show (wr.alloc (.cells #[.int .i64 xk,.string s,.int .i64 num,.slice x0 xs.length z0,.slice x1 xt.length z1,.slice x2 xe.length z2] 58)).cell? ⟨wr.heap.size,5,none⟩=some (.slice x2 xe.length z2) by simp)
   clear h0' h1' h2' h3' h4' h5' hbl
   generalize wr.alloc (.cells #[.int .i64 xk,.string s,.int .i64 num,.slice x0 xs.length z0,.slice x1 xt.length z1,.slice x2 xe.length z2] 58)=W at *
   generalize wr.heap.size=X at *
   go_loopw [5,21] (fun nv iv wr=>∃ m:Nat,m≤xs.length∧iv=.int .i64 m∧nv=.int .i64 (n0+1+qh p i T (xs.take m))∧Below W.heap.size W wr) (fun _ iv _=>xs.length - (intOf iv).toNat)
   case atStart=>exact ⟨0,gj _,rfl,by simp [qh];first|done|rfl|(rw [← IntKind.wrap_i64];exact hwn)|(unfold wrap64;omega),wu _ _⟩
   case round=>
    obtain ⟨m,hm,rfl,rfl,hK2⟩:=hrel
    have hrg2:=qd (p:=p) (i:=i) HTok.out (xs.take m)
    rw [List.length_take] at hrg2
    by_cases hlt2:m<xs.length
    ·obtain ⟨_,_,he,_,_,hr2⟩:=HXs.out
     simp only [Value.slice.injEq] at he
     obtain ⟨rfl,-,rfl⟩:=he
     obtain ⟨xb,xo,rfl,hro⟩:=hr2 (by intro h;rw [h] at hlt2;simp at hlt2)
     have hBr:=HB0W.out.trans (hK2.mono HB0W.out.size)
     obtain ⟨e0a,e0c,hc0,hXI,hxlt⟩:=ye (hro m xs[m] (by simp [hlt2])) hBr
     have hTk2:=costEs_take p i T xs m hlt2
     have hbb2:=k9 wr _ hc0.1
     have hBx:=(wu wr.heap.size wr).alloc (wo _) (.cells #[.int .i64 xs[m].kind,.int .u64 xs[m].num,.string xs[m].name,.slice e0a xs[m].args.length e0c] 53)
     have hcr:=xg (p:=p) (i:=i) HTok.out _ xs[m] (wo _)
     have HIH1:=k8 (cost1_any HTok.out _ xs[m] _ _ (wo _) (hBr.trans (hBx.mono hBr.size)) ((HCt.out.below hK2).below hBx) (fun y hy=>HDe.out y (jq.2 ⟨xs[m],List.getElem_mem _,hy⟩)) hXI)
     have HKx:=k8 (hK2.trans (hBx.mono hK2.size))
     have hexp:=jb hK2 HCt.out.expr
     have hel:=k9 wr _ hexp
     obtain ⟨q0,q1,q2,q3⟩:=hc0
     have HTk2:=k8 hTk2
     clear hr2 hro hXI hxlt hBx hBr hTk2 hK2
     generalize xs[m]=xx at *
     go_wp2_with fail
     refine HIH1.out.mono ?_
     rintro e w2 ⟨rfl,hB2⟩
     have HB2:=k8 (HKx.out.trans (hB2.mono HKx.out.size))
     clear hB2 HIH1 q0 q1 q2 q3 hexp
     have h2l:=HL2.out
     have hrn:=HRN0.out
     go_wp2_with fail
     go_roundw
     case rel=>
      refine ⟨m+1,hlt2,by go_num,?_,HB2.out⟩
      rw [HTk2.out]
      congr 1
      omega
     case measure=>simp [intOf];omega
    ·have hmm:m=xs.length:=by omega
     subst hmm
     have HB2:=k8 (HWb.out.trans (hK2.mono HWb.out.size))
     have hk0:=jb hK2 HX0.out
     have hxl:=k9 wr _ hk0
     have HX0:=k8 hk0
     have HX2:=k8 (jb hK2 HX2.out)
     have HX4:=k8 (jb hK2 HX4.out)
     have HX5:=k8 (jb hK2 HX5.out)
     have HBB:=k8 (jb hK2 HBBw.out)
     have HC1:=k8 (fun (y:World) (hb:Below wr.heap.size wr y)=>HCC1.out y (hK2.trans (hb.mono hK2.size)))
     have HC2:=k8 (fun (y:World) (hb:Below wr.heap.size wr y)=>HCC2.out y (hK2.trans (hb.mono hK2.size)))
     rw [ww (wo _)] at hrg2 ⊢
     obtain ⟨N1,hN1⟩:∃ N1,n0+1+qh p i T xs=N1:=⟨_,rfl⟩
     have hcs:=HCs0.out
     rw [hN1] at hcs ⊢
     have hNr:0≤N1∧N1≤20000:=by have:=HRN0.out;have:=HL2.out;omega
     have HRN:=k8 hNr
     clear hK2 hrg2 hN1 hNr
     by_cases h3:xk=3
     ·subst h3
      rw [if_pos rfl] at hcs
      have HCs:=k8 hcs
      have hmul:0≤num * (1+B1)∧num * (1+B1)≤64 * 4002:=⟨Int.mul_nonneg (by have:=HNum.out rfl;omega) (by have:=HR1.out;omega),Int.mul_le_mul (by have:=HNum.out rfl;omega) (by have:=HR1.out;omega) (by have:=HR1.out;omega) (by omega)⟩
      have HW2:=k8 (show IntKind.i64.wrap (num * (1+B1))=num * (1+B1) by rw [IntKind.wrap_i64];omega)
      have HW3:=k8 (show IntKind.i64.wrap (N1+num * (1+B1))=N1+num * (1+B1) by rw [IntKind.wrap_i64];have:=HRN.out;omega)
      clear hcs hmul
      go_wp2_with fail
      clear hk0 hxl
      refine je zi [.is (.int .i64 N1),.is (.pointer (some ⟨X,2,none⟩)),.is (.int .i64 num),.is (.func (.func 80) #[] #[.pointer (some ⟨eb,0,none⟩),.pointer (some ⟨bb,0,none⟩)]),.is (.pointer (some ⟨X,4,none⟩)),.is (.slice x1 xt.length z1),.is (.int .i64 B1),.is (.int .i64 (1+B1)),.is (.int .i64 (num * (1+B1))),.is (.int .i64 (N1+num * (1+B1)))] (by kernel_rfl) 10 (by decide) (by kernel_rfl) _ rfl ?_ ?_
      ·refine ⟨?_,?_,?_,?_,?_,?_,?_,?_,?_,?_,trivial⟩
       ·refine jc rfl rfl rfl fun x y hB hF hD=>?_
        have e5:slot x 5=.int .i64 N1:=hF.at 5 rfl
        clear hB hF
        simp only [execOp,ja,e5]
        first|rfl|(go_simp;try rfl)
       ·refine jc rfl rfl rfl fun x y hB hF hD=>?_
        have e7:slot x 7=.pointer (some ⟨X,0,none⟩):=hF.at 7 rfl
        clear hB hF
        simp only [execOp,ja,e7]
        first|rfl|(go_simp;try rfl)
       ·refine jc rfl rfl rfl fun x y hB hF hD=>?_
        obtain ⟨d0,-⟩:=hD
        have e35:slot x 35=.pointer (some ⟨X,2,none⟩):=d0 rfl
        have hc:y.cell? ⟨X,2,none⟩=some (.int .i64 num):=jb hB HX2.out
        clear hB hF
        simp only [execOp,ja,e35]
        first|rfl|(go_simp;try rfl)
       ·refine jc rfl rfl rfl fun x y hB hF hD=>?_
        have e2:slot x 2=.pointer (some ⟨bb,0,none⟩):=hF.at 2 rfl
        have hc:y.cell? ⟨bb,0,none⟩=some (.func (.func 80) #[] #[.pointer (some ⟨eb,0,none⟩),.pointer (some ⟨bb,0,none⟩)]):=jb hB HBB.out
        clear hB hF
        simp only [execOp,ja,e2]
        first|rfl|(go_simp;try rfl)
       ·refine jc rfl rfl rfl fun x y hB hF hD=>?_
        have e7:slot x 7=.pointer (some ⟨X,0,none⟩):=hF.at 7 rfl
        clear hB hF
        simp only [execOp,ja,e7]
        first|rfl|(go_simp;try rfl)
       ·refine jc rfl rfl rfl fun x y hB hF hD=>?_
        obtain ⟨d0,-⟩:=hD
        have e38:slot x 38=.pointer (some ⟨X,4,none⟩):=d0 rfl
        have hc:y.cell? ⟨X,4,none⟩=some (.slice x1 xt.length z1):=jb hB HX4.out
        clear hB hF
        simp only [execOp,ja,e38]
        first|rfl|(go_simp;try rfl)
       ·refine jn (f:=80) rfl rfl fun x y hB hF hD=>⟨#[.slice x1 xt.length z1,.pointer (some ⟨eb,0,none⟩),.pointer (some ⟨bb,0,none⟩)],?_,?_⟩
        ·obtain ⟨d0,d1,-⟩:=hD
         have e1:slot x 37=.func (.func 80) #[] #[.pointer (some ⟨eb,0,none⟩),.pointer (some ⟨bb,0,none⟩)]:=d0 rfl
         have e2:slot x 39=.slice x1 xt.length z1:=d1 rfl
         have g1:=jh e1
         have g2:=jh e2
         clear hB hF e1 e2
         simp only [execOp]
         simp [go_sem,g1,g2,hcf]
        ·refine (HC1.out y hB).mono ?_
         rintro e w' ⟨rfl,hb⟩
         exact ⟨hb,.inl ⟨_,rfl,rfl⟩⟩
       ·refine jc rfl rfl rfl fun x y hB hF hD=>?_
        obtain ⟨d0,-⟩:=hD
        have e40:slot x 40=.int .i64 B1:=d0 rfl
        have hw:IntKind.i64.wrap (1+B1)=1+B1:=by rw [IntKind.wrap_i64];have:=HR1.out;omega
        clear hB hF
        simp only [execOp,ja,e40]
        go_simp
        first|done|exact hw|(rw [hw])
       ·refine jc rfl rfl rfl fun x y hB hF hD=>?_
        obtain ⟨d0,d1,-⟩:=hD
        have e36:slot x 36=.int .i64 num:=d0 rfl
        have e41:slot x 41=.int .i64 (1+B1):=d1 rfl
        have hw:IntKind.i64.wrap (num * (1+B1))=num * (1+B1):=HW2.out
        clear hB hF
        simp only [execOp,ja,e36,e41]
        go_simp
        first|done|exact hw|(rw [hw])
       ·refine jc rfl rfl rfl fun x y hB hF hD=>?_
        obtain ⟨d0,d1,-⟩:=hD
        have e34:slot x 34=.int .i64 N1:=d0 rfl
        have e42:slot x 42=.int .i64 (num * (1+B1)):=d1 rfl
        have hw:IntKind.i64.wrap (N1+num * (1+B1))=N1+num * (1+B1):=HW3.out
        clear hB hF
        simp only [execOp,ja,e34,e42]
        go_simp
        first|done|exact hw|(rw [hw])
      ·intro x y hB hF hP
       obtain ⟨p0,p1,p2,p3,p4,p5,p6,p7,p8,p9,-⟩:=hP
       have hx:=jj hF [(34,.int .i64 N1),(35,.pointer (some ⟨X,2,none⟩)),(36,.int .i64 num),(37,.func (.func 80) #[] #[.pointer (some ⟨eb,0,none⟩),.pointer (some ⟨bb,0,none⟩)]),(38,.pointer (some ⟨X,4,none⟩)),(39,.slice x1 xt.length z1),(40,.int .i64 B1),(41,.int .i64 (1+B1)),(42,.int .i64 (num * (1+B1))),(43,.int .i64 (N1+num * (1+B1)))] rfl ⟨p0,p1,p2,p3,p4,p5,p6,p7,p8,p9,trivial⟩
       have HBe:=k8 (HB2.out.trans (hB.mono HB2.out.size))
       clear hB hF p0 p1 p2 p3 p4 p5 p6 p7 p8 p9
       subst hx
       simp only [puts,Act.put,we,wg,wi,wj,wk]
       go_wp2_with fail
       go_roundw
       case rel=>
        refine ⟨k+1,hlt,by go_num,?_,HBe.out⟩
        rw [HTk.out,HCs.out]
        try (first|rfl|go_num)
       case measure=>simp [intOf];omega
     ·have t3:(xk == 3)=false:=by simpa using h3
      rw [if_neg h3] at hcs
      have HCs:=k8 hcs
      clear hcs h3
      go_wp2_with fail
      clear hk0 hxl
      refine je zi [.is (.int .i64 N1),.is (.func (.func 80) #[] #[.pointer (some ⟨eb,0,none⟩),.pointer (some ⟨bb,0,none⟩)]),.is (.pointer (some ⟨X,4,none⟩)),.is (.slice x1 xt.length z1),.is (.int .i64 B1),.is (.func (.func 80) #[] #[.pointer (some ⟨eb,0,none⟩),.pointer (some ⟨bb,0,none⟩)]),.is (.pointer (some ⟨X,5,none⟩)),.is (.slice x2 xe.length z2),.is (.int .i64 B2),.is (.int .i64 (B1+B2)),.is (.int .i64 (N1+(B1+B2)))] (by kernel_rfl) 11 (by decide) (by kernel_rfl) _ rfl ?_ ?_
      ·refine ⟨?_,?_,?_,?_,?_,?_,?_,?_,?_,?_,?_,trivial⟩
       ·refine jc rfl rfl rfl fun x y hB hF hD=>?_
        have e5:slot x 5=.int .i64 N1:=hF.at 5 rfl
        clear hB hF
        simp only [execOp,ja,e5]
        first|rfl|(go_simp;try rfl)
       ·refine jc rfl rfl rfl fun x y hB hF hD=>?_
        have e2:slot x 2=.pointer (some ⟨bb,0,none⟩):=hF.at 2 rfl
        have hc:y.cell? ⟨bb,0,none⟩=some (.func (.func 80) #[] #[.pointer (some ⟨eb,0,none⟩),.pointer (some ⟨bb,0,none⟩)]):=jb hB HBB.out
        clear hB hF
        simp only [execOp,ja,e2]
        first|rfl|(go_simp;try rfl)
       ·refine jc rfl rfl rfl fun x y hB hF hD=>?_
        have e7:slot x 7=.pointer (some ⟨X,0,none⟩):=hF.at 7 rfl
        clear hB hF
        simp only [execOp,ja,e7]
        first|rfl|(go_simp;try rfl)
       ·refine jc rfl rfl rfl fun x y hB hF hD=>?_
        obtain ⟨d0,-⟩:=hD
        have e46:slot x 46=.pointer (some ⟨X,4,none⟩):=d0 rfl
        have hc:y.cell? ⟨X,4,none⟩=some (.slice x1 xt.length z1):=jb hB HX4.out
        clear hB hF
        simp only [execOp,ja,e46]
        first|rfl|(go_simp;try rfl)
       ·refine jn (f:=80) rfl rfl fun x y hB hF hD=>⟨#[.slice x1 xt.length z1,.pointer (some ⟨eb,0,none⟩),.pointer (some ⟨bb,0,none⟩)],?_,?_⟩
        ·obtain ⟨d0,d1,-⟩:=hD
         have e1:slot x 45=.func (.func 80) #[] #[.pointer (some ⟨eb,0,none⟩),.pointer (some ⟨bb,0,none⟩)]:=d0 rfl
         have e2:slot x 47=.slice x1 xt.length z1:=d1 rfl
         have g1:=jh e1
         have g2:=jh e2
         clear hB hF e1 e2
         simp only [execOp]
         simp [go_sem,g1,g2,hcf]
        ·refine (HC1.out y hB).mono ?_
         rintro e w' ⟨rfl,hb⟩
         exact ⟨hb,.inl ⟨_,rfl,rfl⟩⟩
       ·refine jc rfl rfl rfl fun x y hB hF hD=>?_
        have e2:slot x 2=.pointer (some ⟨bb,0,none⟩):=hF.at 2 rfl
        have hc:y.cell? ⟨bb,0,none⟩=some (.func (.func 80) #[] #[.pointer (some ⟨eb,0,none⟩),.pointer (some ⟨bb,0,none⟩)]):=jb hB HBB.out
        clear hB hF
        simp only [execOp,ja,e2]
        first|rfl|(go_simp;try rfl)
       ·refine jc rfl rfl rfl fun x y hB hF hD=>?_
        have e7:slot x 7=.pointer (some ⟨X,0,none⟩):=hF.at 7 rfl
        clear hB hF
        simp only [execOp,ja,e7]
        first|rfl|(go_simp;try rfl)
       ·refine jc rfl rfl rfl fun x y hB hF hD=>?_
        obtain ⟨d0,-⟩:=hD
        have e50:slot x 50=.pointer (some ⟨X,5,none⟩):=d0 rfl
        have hc:y.cell? ⟨X,5,none⟩=some (.slice x2 xe.length z2):=jb hB HX5.out
        clear hB hF
        simp only [execOp,ja,e50]
        first|rfl|(go_simp;try rfl)
       ·refine jn (f:=80) rfl rfl fun x y hB hF hD=>⟨#[.slice x2 xe.length z2,.pointer (some ⟨eb,0,none⟩),.pointer (some ⟨bb,0,none⟩)],?_,?_⟩
        ·obtain ⟨d0,d1,-⟩:=hD
         have e1:slot x 49=.func (.func 80) #[] #[.pointer (some ⟨eb,0,none⟩),.pointer (some ⟨bb,0,none⟩)]:=d0 rfl
         have e2:slot x 51=.slice x2 xe.length z2:=d1 rfl
         have g1:=jh e1
         have g2:=jh e2
         clear hB hF e1 e2
         simp only [execOp]
         simp [go_sem,g1,g2,hcf]
        ·refine (HC2.out y hB).mono ?_
         rintro e w' ⟨rfl,hb⟩
         exact ⟨hb,.inl ⟨_,rfl,rfl⟩⟩
       ·refine jc rfl rfl rfl fun x y hB hF hD=>?_
        obtain ⟨d0,d1,-⟩:=hD
        have e48:slot x 48=.int .i64 B1:=d0 rfl
        have e52:slot x 52=.int .i64 B2:=d1 rfl
        have hw:IntKind.i64.wrap (B1+B2)=B1+B2:=by rw [IntKind.wrap_i64];have:=HR1.out;have:=HR2.out;omega
        clear hB hF
        simp only [execOp,ja,e48,e52]
        go_simp
        first|done|exact hw|(rw [hw])
       ·refine jc rfl rfl rfl fun x y hB hF hD=>?_
        obtain ⟨d0,d1,-⟩:=hD
        have e44:slot x 44=.int .i64 N1:=d0 rfl
        have e53:slot x 53=.int .i64 (B1+B2):=d1 rfl
        have hw:IntKind.i64.wrap (N1+(B1+B2))=N1+(B1+B2):=by rw [IntKind.wrap_i64];have:=HR1.out;have:=HR2.out;have:=HRN.out;omega
        clear hB hF
        simp only [execOp,ja,e44,e53]
        go_simp
        first|done|exact hw|(rw [hw])
      ·intro x y hB hF hP
       obtain ⟨p0,p1,p2,p3,p4,p5,p6,p7,p8,p9,p10,-⟩:=hP
       have hx:=jj hF [(44,.int .i64 N1),(45,.func (.func 80) #[] #[.pointer (some ⟨eb,0,none⟩),.pointer (some ⟨bb,0,none⟩)]),(46,.pointer (some ⟨X,4,none⟩)),(47,.slice x1 xt.length z1),(48,.int .i64 B1),(49,.func (.func 80) #[] #[.pointer (some ⟨eb,0,none⟩),.pointer (some ⟨bb,0,none⟩)]),(50,.pointer (some ⟨X,5,none⟩)),(51,.slice x2 xe.length z2),(52,.int .i64 B2),(53,.int .i64 (B1+B2)),(54,.int .i64 (N1+(B1+B2)))] rfl ⟨p0,p1,p2,p3,p4,p5,p6,p7,p8,p9,p10,trivial⟩
       have HBe:=k8 (HB2.out.trans (hB.mono HB2.out.size))
       clear hB hF p0 p1 p2 p3 p4 p5 p6 p7 p8 p9 p10
       subst hx
       simp only [puts,Act.put,we,wg,wi,wj,wk]
       go_wp2_with fail
       go_roundw
       case rel=>
        refine ⟨k+1,hlt,by go_num,?_,HBe.out⟩
        rw [HTk.out,HCs.out]
        try (first|rfl|go_num)
       case measure=>simp [intOf];omega
  ·have hkk:k=l.length:=by omega
   subst hkk
   rw [ww (wo _)]
   have HF:=k8 hKr
   clear hKr
   go_wp2_with fail
   go_ret
   exact ⟨rfl,HF.out⟩
end
section
open Go.RowKit
theorem info_int:(Tryz.prog.info? 3).map (fun i=>(i.zero,i.size,i.bytes))=some (some (.int .i64 0),1,8):=by kernel_rfl
def mpInt (n:Int):MP:=⟨fun v w=>∃ b,v=.slice (some ⟨b,0,none⟩) 1 1∧w.cell? ⟨b,0,none⟩=some (.int .i64 n),fun v x y ⟨b,h1,h2⟩ hb=>⟨b,h1,jb hb h2⟩⟩
theorem vq (p:Src):∀ n,(qf p n).length=n
 | 0=>rfl
 | n+1=>by rw [qf,List.length_append,vq p n];rfl
theorem costTab_ok {p:Src} (hF:kg p):∀ n,n≤p.funcs.length→CostsOk (qf p n)
 | 0,_=>fun j=>by simp [qf]
 | n+1,h=>by
  intro j
  have ih:=costTab_ok hF n (by omega)
  have hf:p.funcs[n]?=some p.funcs[n]:=List.getElem?_eq_getElem (by omega)
  rw [qf,hf]
  simp only
  have hl:=vq p n
  rcases Nat.lt_trichotomy j n with hj|hj|hj
  ·rw [List.getD_eq_getElem?_getD,List.getElem?_append_left (by omega),← List.getD_eq_getElem?_getD]
   exact ih j
  ·rw [List.getD_eq_getElem?_getD,List.getElem?_append_right (by omega),hl,hj,Nat.sub_self]
   simp only [List.getElem?_cons_zero,Option.getD_some]
   exact ki ih _ _ 0 (wo _) (hF.funs n _ hf).evs (by omega) (by omega)
  ·rw [List.getD_eq_getElem?_getD,List.getElem?_append_right (by omega),hl]
   rw [List.getElem?_eq_none (by simp;omega)]
   simp
theorem own_row {w:World} {base:Nat} {v:Value} {n:Nat} {T:List Int} (h:w.ownsRow base 3 1 v n (T.map (Value.int .i64))) (hl:T.length=n):∀ j,j<n→∃ rb rc,v=.slice (some ⟨rb,0,none⟩) n rc∧w.cell? ⟨rb,j,none⟩=some (.int .i64 (T.getD j 0)):=by
 intro j hj
 have h0:=h
 rcases h.2 with ⟨_,h2⟩|⟨g,cap,cur,rfl,_⟩
 ·omega
 ·refine ⟨g,cap,rfl,?_⟩
  have:=h0.cells (g:=g) rfl j (.int .i64 (T.getD j 0)) (by rw [List.getElem?_map,List.getElem?_eq_getElem (by omega)];simp [List.getD_eq_getElem?_getD,List.getElem?_eq_getElem (show j<T.length by omega)])
  have e:(⟨g,0,none⟩:Addr).add j=⟨g,j,none⟩:=by cases j<;>simp [Addr.add]
  rw [e] at this
  exact this
theorem costs_any {w0:World} {p:Src} (hF:kg p) (hWt:wtFs p.funcs≤100000) (v:Value) (w:World) (hB0:Below w0.heap.size w0 w) (hI:kn w0 p v) :
  Calls Tryz.prog 45 #[v] w fun e w'=>Below w.heap.size w w'∧∃ ov,e=.returned ov∧w'.ownsRow w.heap.size 3 1 ov p.funcs.length ((qf p p.funcs.length).map (Value.int .i64)):=by
 have hI0:=hI
 obtain ⟨a0,c0,a1,c1,rfl,hs0,hs1⟩:=hI
 have hl:=hF.many
 have hBl:=(wu w.heap.size w).alloc (wo _) (.cells #[.slice a0 p.secrets.length c0,.slice a1 p.funcs.length c1] 25)
 have HB:=k8 hBl
 have HB0:=k8 hB0
 have HX0:=k8 (show (w.alloc (.cells #[.slice a0 p.secrets.length c0,.slice a1 p.funcs.length c1] 25)).cell? ⟨w.heap.size,0,none⟩=some (.slice a0 p.secrets.length c0) by simp)
 have HX1:=k8 (show (w.alloc (.cells #[.slice a0 p.secrets.length c0,.slice a1 p.funcs.length c1] 25)).cell? ⟨w.heap.size,1,none⟩=some (.slice a1 p.funcs.length c1) by simp)
 have HF:=k8 hF
 have HWt:=k8 hWt
 have HSrc:=k8 hI0
 have hcf:∀ (args:Array Value) (w:World),(callFunc 80 args).run Tryz.prog w=.ok (.enter 80 args) w:=fun _ _=>by kernel_rfl
 have hmf:∀ (fn:Fn) (first cap:Array Value) (w:World),(Instr.makeFunc fn first cap).run Tryz.prog w=.ok (.func fn first cap) w:=fun _ _ _ _=>rfl
 have hnil:w.heap.size+2=((w.alloc (.cells #[.slice a0 p.secrets.length c0,.slice a1 p.funcs.length c1] 25)).alloc (.cells #[.slice none 0 0] 105)).heap.size:=by simp
 clear hI0 hF hWt hBl hB0 hs0 hs1
 go_enter Tryz.func45,Tryz.ntmps45
 go_wp2_with fail
 go_loopw [11] (fun iv wr=>∃ k:Nat,k≤p.funcs.length∧iv=.int .i64 k∧Below (w.heap.size+1) (w.alloc (.cells #[.slice a0 p.secrets.length c0,.slice a1 p.funcs.length c1] 25)) wr∧w.heap.size+2≤wr.heap.size∧∃ ov,wr.cell? ⟨w.heap.size+1,0,none⟩=some ov∧wr.frozen? ⟨w.heap.size+1,0,none⟩=false∧wr.ownsRow (w.heap.size+2) 3 1 ov k ((qf p k).map (Value.int .i64))) (fun iv _=>p.funcs.length - (intOf iv).toNat)
 case atStart=>exact ⟨0,gj _,rfl,((wu _ _).alloc (by simp) _),by simp,.slice none 0 0,by simp,by simp [go_sem],rfl,.inl ⟨rfl,rfl⟩⟩
 case round=>
  obtain ⟨k,hk,rfl,hKr,hzr,ov,hout,hfz,hrow⟩:=hrel
  have HKr:=k8 hKr
  have HBr:=k8 (HB.out.trans (hKr.mono (by omega)))
  have hx0:=(hKr.cell (p:=⟨w.heap.size,0,none⟩) (Nat.lt_succ_self _)).trans HX0.out
  have hx1:=(hKr.cell (p:=⟨w.heap.size,1,none⟩) (Nat.lt_succ_self _)).trans HX1.out
  by_cases hlt:k<p.funcs.length
  ·obtain ⟨f,hf⟩:∃ f,p.funcs[k]?=some f:=⟨_,List.getElem?_eq_getElem hlt⟩
   have hB0r:=HB0.out.trans (HBr.out.mono HB0.out.size)
   have HLk:=k8 (look_any w0 p k f hf _ wr hB0r HSrc.out)
   have HB0r:=k8 hB0r
   have HRow:=k8 hrow
   have HOutr:=k8 hout
   have HFzr:=k8 hfz
   have hFf:=HF.out.funs k f hf
   have hok:=costTab_ok HF.out k (by omega)
   have HFf:=k8 hFf
   have HOk:=k8 hok
   have HWf:=k8 (wx (wtFs_mem _ f (gg hf)) HWt.out)
   have HTab:Hid (qf p (k+1)=qf p k++[zz p k (qf p k) 0 f.body]):=by show _=_;rw [qf,hf]
   clear hKr hout hfz hrow hf hB0r hFf hok
   go_wp2_with fail
   refine HLk.out.mono ?_
   rintro e w2 ⟨hB2,nb,na,np,ns,nt,rfl,-,-,-,-,-,hv,-,-⟩
   have hz2:=hB2.size
   obtain ⟨_,_,_,_,_,_,a3,c3,-,-,-,-,-,-,g6,-,-,-,-,-,hFn⟩:=hv.open
   have hsl:Sl 6 (j9 w0) (.slice a3 f.body.length c3) f.body:=by
    obtain ⟨_,_,_,_,he,_,_,h⟩:=hFn
    simp only [Value.agg.injEq,List.toArray_inj,Array.mk.injEq,List.cons.injEq,Value.slice.injEq,true_and,and_true] at he
    obtain ⟨-,rfl,rfl⟩:=he
    exact h
   have hBb:Below w2.heap.size w2 (((w2.alloc (.cells #[.pointer (some ⟨nb,0,none⟩)] 102)).alloc (.cells #[.func (.func 79) #[] #[.pointer (some ⟨w.heap.size+1,0,none⟩),.pointer (some ⟨w2.heap.size,0,none⟩),.pointer (some ⟨w2.heap.size+1,0,none⟩)]] 133)).alloc (.cells #[.func (.func 80) #[] #[.pointer (some ⟨w2.heap.size+1,0,none⟩),.pointer (some ⟨w2.heap.size+1+1,0,none⟩)]] 94)):=(((wu _ _).alloc (wo _) _).alloc (by (try simp)<;>omega) _).alloc (by (try simp)<;>omega) _
   have hB3:=hB2.trans (hBb.mono hz2)
   have HB3:=k8 hB3
   have HOut:=k8 (jb hB3 HOutr.out)
   have hobl:=k9 wr _ HOutr.out
   have HFz:Hid ((((w2.alloc (.cells #[.pointer (some ⟨nb,0,none⟩)] 102)).alloc (.cells #[.func (.func 79) #[] #[.pointer (some ⟨w.heap.size+1,0,none⟩),.pointer (some ⟨w2.heap.size,0,none⟩),.pointer (some ⟨w2.heap.size+1,0,none⟩)]] 133)).alloc (.cells #[.func (.func 80) #[] #[.pointer (some ⟨w2.heap.size+1,0,none⟩),.pointer (some ⟨w2.heap.size+1+1,0,none⟩)]] 94)).frozen? ⟨w.heap.size+1,0,none⟩=false):=(hB3.frozen (k9 wr _ HOutr.out)).trans HFzr.out
   have hrow3:=jv HRow.out hB3
   have HRow3:=k8 hrow3
   have HV6:=k8 (jb hBb g6)
   have HVar:=k8 (show (((w2.alloc (.cells #[.pointer (some ⟨nb,0,none⟩)] 102)).alloc (.cells #[.func (.func 79) #[] #[.pointer (some ⟨w.heap.size+1,0,none⟩),.pointer (some ⟨w2.heap.size,0,none⟩),.pointer (some ⟨w2.heap.size+1,0,none⟩)]] 133)).alloc (.cells #[.func (.func 80) #[] #[.pointer (some ⟨w2.heap.size+1,0,none⟩),.pointer (some ⟨w2.heap.size+1+1,0,none⟩)]] 94)).cell? ⟨w2.heap.size,0,none⟩=some (.pointer (some ⟨nb,0,none⟩)) by simp [go_sem])
   have HEB:Hid ((((w2.alloc (.cells #[.pointer (some ⟨nb,0,none⟩)] 102)).alloc (.cells #[.func (.func 79) #[] #[.pointer (some ⟨w.heap.size+1,0,none⟩),.pointer (some ⟨w2.heap.size,0,none⟩),.pointer (some ⟨w2.heap.size+1,0,none⟩)]] 133)).alloc (.cells #[.func (.func 80) #[] #[.pointer (some ⟨w2.heap.size+1,0,none⟩),.pointer (some ⟨w2.heap.size+1+1,0,none⟩)]] 94)).cell? ⟨w2.heap.size+1,0,none⟩=some (.func (.func 79) #[] #[.pointer (some ⟨w.heap.size+1,0,none⟩),.pointer (some ⟨w2.heap.size,0,none⟩),.pointer (some ⟨w2.heap.size+1,0,none⟩)])):=by show _=_;simp [go_sem]
   have HBB:Hid ((((w2.alloc (.cells #[.pointer (some ⟨nb,0,none⟩)] 102)).alloc (.cells #[.func (.func 79) #[] #[.pointer (some ⟨w.heap.size+1,0,none⟩),.pointer (some ⟨w2.heap.size,0,none⟩),.pointer (some ⟨w2.heap.size+1,0,none⟩)]] 133)).alloc (.cells #[.func (.func 80) #[] #[.pointer (some ⟨w2.heap.size+1,0,none⟩),.pointer (some ⟨w2.heap.size+1+1,0,none⟩)]] 94)).cell? ⟨w2.heap.size+1+1,0,none⟩=some (.func (.func 80) #[] #[.pointer (some ⟨w2.heap.size+1,0,none⟩),.pointer (some ⟨w2.heap.size+1+1,0,none⟩)])):=by show _=_;simp [go_sem]
   have hCtx:CostCtx w0 p k f (qf p k) (w.heap.size+1) w2.heap.size (w2.heap.size+1) nb na np ns nt ov (((w2.alloc (.cells #[.pointer (some ⟨nb,0,none⟩)] 102)).alloc (.cells #[.func (.func 79) #[] #[.pointer (some ⟨w.heap.size+1,0,none⟩),.pointer (some ⟨w2.heap.size,0,none⟩),.pointer (some ⟨w2.heap.size+1,0,none⟩)]] 133)).alloc (.cells #[.func (.func 80) #[] #[.pointer (some ⟨w2.heap.size+1,0,none⟩),.pointer (some ⟨w2.heap.size+1+1,0,none⟩)]] 94)):=⟨hv.below hBb,HVar.out,HOut.out,own_row hrow3 (vq p k),HEB.out⟩
   have hB0b:=HB0r.out.trans (hB3.mono HB0r.out.size)
   have HCo:=k8 (fun (y:World) (hb:Below (((w2.alloc (.cells #[.pointer (some ⟨nb,0,none⟩)] 102)).alloc (.cells #[.func (.func 79) #[] #[.pointer (some ⟨w.heap.size+1,0,none⟩),.pointer (some ⟨w2.heap.size,0,none⟩),.pointer (some ⟨w2.heap.size+1,0,none⟩)]] 133)).alloc (.cells #[.func (.func 80) #[] #[.pointer (some ⟨w2.heap.size+1,0,none⟩),.pointer (some ⟨w2.heap.size+1+1,0,none⟩)]] 94)).heap.size (((w2.alloc (.cells #[.pointer (some ⟨nb,0,none⟩)] 102)).alloc (.cells #[.func (.func 79) #[] #[.pointer (some ⟨w.heap.size+1,0,none⟩),.pointer (some ⟨w2.heap.size,0,none⟩),.pointer (some ⟨w2.heap.size+1,0,none⟩)]] 133)).alloc (.cells #[.func (.func 80) #[] #[.pointer (some ⟨w2.heap.size+1,0,none⟩),.pointer (some ⟨w2.heap.size+1+1,0,none⟩)]] 94)) y)=>cost2_any HOk.out _ f.body _ y (wo _) (hB0b.trans (hb.mono hB0b.size)) (hCtx.below hb) (jb hb HBB.out) HFf.out.evs hsl)
   have hzb:(((w2.alloc (.cells #[.pointer (some ⟨nb,0,none⟩)] 102)).alloc (.cells #[.func (.func 79) #[] #[.pointer (some ⟨w.heap.size+1,0,none⟩),.pointer (some ⟨w2.heap.size,0,none⟩),.pointer (some ⟨w2.heap.size+1,0,none⟩)]] 133)).alloc (.cells #[.func (.func 80) #[] #[.pointer (some ⟨w2.heap.size+1,0,none⟩),.pointer (some ⟨w2.heap.size+1+1,0,none⟩)]] 94)).heap.size=w2.heap.size+3:=by simp
   have HZb:=k8 hzb
   clear hB2 hv g6 hFn hsl hBb hB3 hrow3 hCtx hB0b hzb hx0 hx1 hobl
   obtain ⟨C,hC⟩:∃ C,zz p k (qf p k) 0 f.body=C:=⟨_,rfl⟩
   rw [hC] at HTab HCo
   clear hC
   go_wp2_with fail
   generalize hWb:(((w2.alloc (.cells #[.pointer (some ⟨nb,0,none⟩)] 102)).alloc (.cells #[.func (.func 79) #[] #[.pointer (some ⟨w.heap.size+1,0,none⟩),.pointer (some ⟨w2.heap.size,0,none⟩),.pointer (some ⟨w2.heap.size+1,0,none⟩)]] 133)).alloc (.cells #[.func (.func 80) #[] #[.pointer (some ⟨w2.heap.size+1,0,none⟩),.pointer (some ⟨w2.heap.size+1+1,0,none⟩)]] 94))=Wb at *
   clear hWb
   refine je zi [.is (ov),.is (.func (.func 80) #[] #[.pointer (some ⟨w2.heap.size+1,0,none⟩),.pointer (some ⟨w2.heap.size+1+1,0,none⟩)]),.is (.pointer (some ⟨nb,0,none⟩)),.is (.pointer (some ⟨nb,0,none⟩)),.is (.pointer (some ⟨nb,3,none⟩)),.is (.pointer (some ⟨nb,6,none⟩)),.is (.slice a3 f.body.length c3),.is (.int .i64 C),mpInt C] (by kernel_rfl) 9 (by decide) (by kernel_rfl) _ rfl ?_ ?_
   ·refine ⟨?_,?_,?_,?_,?_,?_,?_,?_,?_,trivial⟩
    ·refine jc rfl rfl rfl fun x y hB hF hD=>?_
     have e3:slot x 3=.pointer (some ⟨w.heap.size+1,0,none⟩):=hF.at 3 rfl
     have hc:y.cell? ⟨w.heap.size+1,0,none⟩=some ov:=jb hB HOut.out
     clear hB hF
     simp only [execOp,ja,e3]
     first|rfl|(go_simp;try rfl)
    ·refine jc rfl rfl rfl fun x y hB hF hD=>?_
     have e7:slot x 7=.pointer (some ⟨w2.heap.size+1+1,0,none⟩):=hF.at 7 rfl
     have hc:y.cell? ⟨w2.heap.size+1+1,0,none⟩=some (.func (.func 80) #[] #[.pointer (some ⟨w2.heap.size+1,0,none⟩),.pointer (some ⟨w2.heap.size+1+1,0,none⟩)]):=jb hB HBB.out
     clear hB hF
     simp only [execOp,ja,e7]
     first|rfl|(go_simp;try rfl)
    ·refine jc rfl rfl rfl fun x y hB hF hD=>?_
     have e5:slot x 5=.pointer (some ⟨w2.heap.size,0,none⟩):=hF.at 5 rfl
     have hc:y.cell? ⟨w2.heap.size,0,none⟩=some (.pointer (some ⟨nb,0,none⟩)):=jb hB HVar.out
     clear hB hF
     simp only [execOp,ja,e5]
     first|rfl|(go_simp;try rfl)
    ·refine jc rfl rfl rfl fun x y hB hF hD=>?_
     obtain ⟨d0,-⟩:=hD
     have e21:slot x 21=.pointer (some ⟨nb,0,none⟩):=d0 rfl
     clear hB hF
     simp only [execOp,ja,e21]
     first|rfl|(go_simp;try rfl)
    ·refine jc rfl rfl rfl fun x y hB hF hD=>?_
     obtain ⟨d0,-⟩:=hD
     have e22:slot x 22=.pointer (some ⟨nb,0,none⟩):=d0 rfl
     clear hB hF
     simp only [execOp,ja,e22]
     first|rfl|(go_simp;try rfl)
    ·refine jc rfl rfl rfl fun x y hB hF hD=>?_
     obtain ⟨d0,-⟩:=hD
     have e23:slot x 23=.pointer (some ⟨nb,3,none⟩):=d0 rfl
     clear hB hF
     simp only [execOp,ja,e23]
     first|rfl|(go_simp;try rfl)
    ·refine jc rfl rfl rfl fun x y hB hF hD=>?_
     obtain ⟨d0,-⟩:=hD
     have e24:slot x 24=.pointer (some ⟨nb,6,none⟩):=d0 rfl
     have hc:y.cell? ⟨nb,6,none⟩=some (.slice a3 f.body.length c3):=jb hB HV6.out
     clear hB hF
     simp only [execOp,ja,e24]
     first|rfl|(go_simp;try rfl)
    ·refine jn (f:=80) rfl rfl fun x y hB hF hD=>⟨#[.slice a3 f.body.length c3,.pointer (some ⟨w2.heap.size+1,0,none⟩),.pointer (some ⟨w2.heap.size+1+1,0,none⟩)],?_,?_⟩
     ·obtain ⟨d0,d1,-⟩:=hD
      have e1:slot x 20=.func (.func 80) #[] #[.pointer (some ⟨w2.heap.size+1,0,none⟩),.pointer (some ⟨w2.heap.size+1+1,0,none⟩)]:=d0 rfl
      have e2:slot x 25=.slice a3 f.body.length c3:=d1 rfl
      have g1:=jh e1
      have g2:=jh e2
      clear hB hF e1 e2
      simp only [execOp]
      simp [go_sem,g1,g2,hcf]
     ·refine (HCo.out y hB).mono ?_
      rintro e w' ⟨rfl,hb⟩
      exact ⟨hb,.inl ⟨_,rfl,rfl⟩⟩
    ·refine jr rfl fun x y hB hF hD=>?_
     obtain ⟨d0,-⟩:=hD
     have e1:slot x 26=.int .i64 C:=d0 rfl
     have g1:=jh e1
     clear hB hF e1
     unfold Oper.wp
     simp only [execOp]
     simp [go_sem,g1]
     refine ⟨_,rfl,(wu _ _).alloc (wo _) _,?_⟩
     have hcn:(y.alloc (.cells #[.int .i64 C] 3)).cell? ⟨y.heap.size,0,none⟩=some (.int .i64 C):=by simp
     exact (⟨y.heap.size,rfl,hcn⟩:(mpInt C).p _ _)
   ·intro x y2 hB hF hP
    obtain ⟨p0,p1,p2,p3,p4,p5,p6,p7,p8,-⟩:=hP
    have hx:=jj hF [(19,ov),(20,.func (.func 80) #[] #[.pointer (some ⟨w2.heap.size+1,0,none⟩),.pointer (some ⟨w2.heap.size+1+1,0,none⟩)]),(21,.pointer (some ⟨nb,0,none⟩)),(22,.pointer (some ⟨nb,0,none⟩)),(23,.pointer (some ⟨nb,3,none⟩)),(24,.pointer (some ⟨nb,6,none⟩)),(25,.slice a3 f.body.length c3),(26,.int .i64 C),(27,slot x 27)] rfl ⟨p0,p1,p2,p3,p4,p5,p6,p7,rfl,trivial⟩
    have HR1:=k8 (jv HRow3.out hB)
    obtain ⟨cb,hcb,hcc⟩:∃ b,slot x 27=.slice (some ⟨b,0,none⟩) 1 1∧y2.cell? ⟨b,0,none⟩=some (.int .i64 C):=p8
    have HCc:=k8 hcc
    have HB4:=k8 (HB3.out.trans (hB.mono HB3.out.size))
    have HOut4:=k8 (jb hB HOut.out)
    have HFz4:Hid (y2.frozen? ⟨w.heap.size+1,0,none⟩=false):=(hB.frozen (k9 Wb _ HOut.out)).trans HFz.out
    have HZ4:Hid (w.heap.size+2≤y2.heap.size):=wx hzr HB4.out.size
    rw [hcb] at hx
    clear hB hF p0 p1 p2 p3 p4 p5 p6 p7 hcb hcc
    subst hx
    obtain ⟨i0,hi,hi0,hi1,hi2⟩:=info_parts info_int
    simp only [puts,Act.put,we,wg,wi,wj,wk]
    go_wp2_with (at_builtin;go_loud (refine wpList_append_own _ rfl _ _ _ rfl (w.heap.size+2) 3 i0 _ 1 8 Tryz.underlying105 hi hi0 hi1 hi2 rfl (by omega) _ k ((qf p k).map (Value.int .i64)) rfl HR1.out ⟨cb,0,none⟩ 1 1 [.int .i64 C] rfl (by simp) ?ca ?cb ?cc ?cd HZ4.out ?_))
    case ca=>
     intro j u hj
     cases j with
     | zero=>
      simp only [List.getElem?_cons_zero,Option.some.injEq] at hj
      subst hj
      exact HCc.out
     | succ j=>simp at hj
    case cb=>
     intro u hu
     simp only [wy] at hu
     subst hu
     rfl
    case cc=>simp only [maxLen];omega
    case cd=>omega
    intro v1 w4 ho1 hg1 _
    obtain ⟨va1,vl1,vc1,rfl⟩:∃ a l c,v1=.slice a l c:=by
     rcases ho1.2 with ⟨rfl,_⟩|⟨g,cap,cur,rfl,_⟩
     ·exact ⟨_,_,_,rfl⟩
     ·exact ⟨_,_,_,rfl⟩
    have hob:∀ kk,ov.ownBlock=some kk→w.heap.size+2≤kk:=fun kk hkk=>ks HR1.out kk hkk
    have hne:some (w.heap.size+1)≠ov.ownBlock:=fun h=>by have:=hob _ h.symm;omega
    have hobl:=k9 y2 _ HOut4.out
    have hblk:=hg1.block (w.heap.size+1) hobl hne
    have hout4:w4.cell? ⟨w.heap.size+1,0,none⟩=some ov:=(World.cell?_of_block (w:=y2) (a:=⟨w.heap.size+1,0,none⟩) hblk).trans HOut4.out
    have hfz4:w4.frozen? ⟨w.heap.size+1,0,none⟩=false:=(World.frozen?_of_block (a:=⟨w.heap.size+1,0,none⟩) hblk).trans HFz4.out
    have hB5:Below (w.heap.size+1) (w.alloc (.cells #[.slice a0 p.secrets.length c0,.slice a1 p.funcs.length c1] 25)) w4:=(HKr.out.trans (HB4.out.mono (by omega))).grown hg1 (by have:=HZ4.out;omega) (fun b hb=>by have:=hob b hb;omega)
    have HB5:=k8 (hB5.setCell (p:=⟨w.heap.size+1,0,none⟩) (wo _) (.slice va1 vl1 vc1))
    have HZ5:Hid (w.heap.size+2≤(w4.setCell ⟨w.heap.size+1,0,none⟩ (.slice va1 vl1 vc1)).heap.size):=by show _≤_;simp [World.setCell];exact wx HZ4.out hg1.size
    have HR5:=k8 (show (w4.setCell ⟨w.heap.size+1,0,none⟩ (.slice va1 vl1 vc1)).ownsRow (w.heap.size+2) 3 1 (.slice va1 vl1 vc1) (k+1) ((qf p (k+1)).map (Value.int .i64)) from by
     rw [HTab.out,List.map_append]
     refine World.ownsRow.kept ho1 (w':=w4.setCell ⟨w.heap.size+1,0,none⟩ (.slice va1 vl1 vc1)) (row:=some (w.heap.size+1)) ⟨rfl,rfl,rfl,by simp [World.setCell],fun i _ hi=>Below.heap_setCell _ _ _ _ (fun e=>hi (by rw [e]))⟩ ?_
     cases hv1:Value.ownBlock (.slice va1 vl1 vc1) with
     | none=>exact .inl rfl
     | some kk=>exact .inr (by have:=ks ho1 kk hv1;simp;omega))
    have HO5:Hid ((w4.setCell ⟨w.heap.size+1,0,none⟩ (.slice va1 vl1 vc1)).cell? ⟨w.heap.size+1,0,none⟩=some (.slice va1 vl1 vc1)):=World.cell?_setCell_same _ _ _ hout4
    have HF5:Hid ((w4.setCell ⟨w.heap.size+1,0,none⟩ (.slice va1 vl1 vc1)).frozen? ⟨w.heap.size+1,0,none⟩=false):=by show _=_;rw [World.frozen?_setCell];exact hfz4
    clear ho1 hg1 hob hne hblk hB5
    go_wp2_with fail
    go_roundw
    case rel=>exact ⟨k+1,by omega,by go_num,HB5.out,HZ5.out,.slice va1 vl1 vc1,HO5.out,HF5.out,HR5.out⟩
    case measure=>simp [intOf];omega
  ·have hkk:k=p.funcs.length:=by omega
   subst hkk
   have HRow:=k8 hrow
   clear hrow hKr
   go_wp2_with fail
   go_ret
   exact ⟨HBr.out,ov,rfl,yk HRow.out (by omega)⟩
end
section
open Go.RowKit
theorem again_any {w:World} {b:Nat} {l:List (ByteArray×Bool)} (h:MapB w b l) (s:ByteArray) :
  Calls Tryz.prog 103 #[.map (some b),.string s] w fun e w'=>e=.returned (.bool (zf l s))∧MapB w' b (aput l s true)∧w.grownBy w' (some b)∧w'.heap.size=w.heap.size:=by
 have HM:=k8 h
 have hg:=bool_get l s
 obtain ⟨B,hB⟩:∃ B,zf l s=B:=⟨_,rfl⟩
 rw [hB] at hg ⊢
 clear h hB
 go_enter Tryz.func103,Tryz.ntmps103
 go_wp2_with (first|(at_lookup;go_loud (refine yp rfl _ _ _ _ rfl keyS 4 Tryz.underlying123 _ (zeroB _) rfl HM.out _ rfl ?_))|(at_mapUpdate;go_loud (refine vd rfl _ _ _ _ rfl keyS 4 Tryz.underlying123 rfl HM.out _ _ rfl rfl ?_)))
 intro w1 hm1 hg1 hz1
 rw [kz] at hm1
 have HM1:=k8 hm1
 have HG1:=k8 hg1
 have HZ1:=k8 hz1
 clear hm1 hg1 hz1
 go_wp2
 go_ret
 exact ⟨rfl,HM1.out,HG1.out,HZ1.out⟩
theorem mclone_any {w:World} {b:Nat} {l:List (ByteArray×Bool)} (h:MapB w b l) :
  Calls Tryz.prog 104 #[.map (some b)] w fun e w'=>e=.returned (.map (some w.heap.size))∧MapB w' w.heap.size l∧Below w.heap.size w w'∧w'.heap.size=w.heap.size+1:=by
 obtain ⟨es,clock,hb,hl⟩:=h
 have hc:(Extern.MapsClone.clone #[.iface 123 (.map (some b))]).run Tryz.prog w=.ok (.iface 123 (.map (some w.heap.size))) (w.alloc (.map es clock)):=by
  change Sem.run Tryz.prog (do
   let .map entries clock ← getObj b|stuck "maps.clone: a map expected"
   pure (Value.iface 123 (Value.map (some (← newObj (.map entries clock)))))) w=_
  simp only [Sem.run_bind,MapKept.run_getObj_map hb,Result.andThen]
  rfl
 have hx:(callFunc 145 #[.iface 123 (.map (some b))]).run Tryz.prog w=.ok (.value (.iface 123 (.map (some w.heap.size)))) (w.alloc (.map es clock)):=by
  rw [run_callFunc_extern (P:=Tryz.prog) (e:=Extern.MapsClone.clone) Tryz.func145 (by kernel_rfl) (by kernel_rfl) (by kernel_rfl) (by kernel_rfl),hc]
  rfl
 have hn:MapB (w.alloc (.map es clock)) w.heap.size l:=⟨es,clock,(MapKept.heap_alloc w _).1,hl⟩
 have HN:=k8 hn
 have heq:∀ w:World,(binOp BinOp.eql 123 (.map (some b)) (.map none)).run Tryz.prog w=.ok (.bool false) w:=fun w=>by kernel_rfl
 have hta:∀ (v:Value) (w:World),(Instr.typeAssert (.iface 123 v) 20 123 false).run Tryz.prog w=.ok v w:=fun v w=>by kernel_rfl
 clear hn hl hb
 go_enter Tryz.func104,Tryz.ntmps104
 go_wp2
 go_ret
 exact ⟨rfl,HN.out,(wu _ _).alloc (wo _) _,by simp⟩
theorem bsz {w w':World} {o:Obj} (h:Below (w.heap.size+1) (w.alloc o) w'):w.heap.size+1≤w'.heap.size:=by simpa using h.size
def twG (st:List (ByteArray×Bool)×Bool) (s:ByteArray):List (ByteArray×Bool)×Bool:=(aput st.1 s true,zf st.1 s || st.2)
theorem againAll_eq (st:List (ByteArray×Bool)×Bool) (l:List ByteArray):againAll st l=l.foldl twG st:=rfl
theorem twice_any {w0:World} {p:Src} (v:Value) (w:World) (hB0:Below w0.heap.size w0 w) (hI:kn w0 p v) :
  Calls Tryz.prog 66 #[v] w (Ret w (.bool (twiceS p))):=by
 obtain ⟨a0,c0,a1,c1,rfl,hs0,hs1⟩:=hI
 have hBl:=(wu w.heap.size w).alloc (wo _) (.cells #[.slice a0 p.secrets.length c0,.slice a1 p.funcs.length c1] 25)
 have HB:=k8 hBl
 have HB0:=k8 hB0
 have HX0:=k8 (show (w.alloc (.cells #[.slice a0 p.secrets.length c0,.slice a1 p.funcs.length c1] 25)).cell? ⟨w.heap.size,0,none⟩=some (.slice a0 p.secrets.length c0) by simp)
 have HX1:=k8 (show (w.alloc (.cells #[.slice a0 p.secrets.length c0,.slice a1 p.funcs.length c1] 25)).cell? ⟨w.heap.size,1,none⟩=some (.slice a1 p.funcs.length c1) by simp)
 have HS0:=k8 hs0
 have HS1:=k8 hs1
 have hmn:MapB ((w.alloc (.cells #[.slice a0 p.secrets.length c0,.slice a1 p.funcs.length c1] 25)).alloc (.map #[] 0)) (w.heap.size+1) []:=mapB_new _ _ (by
  have:=(MapKept.heap_alloc (w.alloc (.cells #[.slice a0 p.secrets.length c0,.slice a1 p.funcs.length c1] 25)) (.map #[] 0)).1
  simpa using this)
 have HMn:=k8 hmn
 have hsp:twiceS p=(p.funcs.foldl (twiceF ((p.secrets.map (·.name)).foldl twG ([],false)).1) ((p.secrets.map (·.name)).foldl twG ([],false))).2:=rfl
 obtain ⟨R,hR⟩:∃ R,R=twiceS p:=⟨_,rfl⟩
 rw [← hR]
 rw [hsp] at hR
 have HR:=k8 hR
 have hcf:∀ (args:Array Value) (w:World),(callFunc 103 args).run Tryz.prog w=.ok (.enter 103 args) w:=fun _ _=>by kernel_rfl
 have hmk:∀ (t:TypeId) (w:World),(Instr.makeMap t none).run Tryz.prog w=.ok (.map (some w.heap.size)) (w.alloc (.map #[] 0)):=fun t w=>rfl
 clear hmn hB0 hBl hs0 hs1 hsp hR
 go_enter Tryz.func66,Tryz.ntmps66
 go_wp2_with fail
 go_loopw [5,18] (fun bv iv wr=>∃ k:Nat,k≤p.secrets.length∧iv=.int .i64 k∧bv=.bool (((p.secrets.map (·.name)).take k).foldl twG ([],false)).2∧Below (w.heap.size+1) (w.alloc (.cells #[.slice a0 p.secrets.length c0,.slice a1 p.funcs.length c1] 25)) wr∧MapB wr (w.heap.size+1) (((p.secrets.map (·.name)).take k).foldl twG ([],false)).1) (fun _ iv _=>p.secrets.length - (intOf iv).toNat)
 case atStart=>exact ⟨0,gj _,rfl,rfl,((wu _ _).alloc (by simp) _),HMn.out⟩
 case round=>
  obtain ⟨k,hk,rfl,rfl,hKr,hMr⟩:=hrel
  by_cases hlt:k<p.secrets.length
  ·obtain ⟨_,_,he,_,_,hr⟩:=HS0.out
   simp only [Value.slice.injEq] at he
   obtain ⟨rfl,-,rfl⟩:=he
   obtain ⟨b,o,rfl,hro⟩:=hr (by intro h;rw [h] at hlt;simp at hlt)
   have hBr:=HB0.out.trans ((HB.out.trans (hKr.mono (by omega))).mono HB0.out.size)
   have hpa:=hro k p.secrets[k] (by simp [hlt])
   have q0:=jb hBr hpa.1.1
   have q1:=jb hBr hpa.2.1
   have hbb:=k9 wr _ q0
   have hlt2:k<(p.secrets.map (·.name)).length:=by simpa using hlt
   have hst:=yq twG (([]:List (ByteArray×Bool)),false) (p.secrets.map (·.name)) k hlt2
   rw [List.getElem_map] at hst
   have HSt:=k8 hst
   clear hr hro hpa hBr hst
   generalize p.secrets[k]=x at *
   obtain ⟨xn,xl⟩:=x
   simp only at q0 q1
   have hBx:=(wu wr.heap.size wr).alloc (wo _) (.cells #[.string xn,.int .i64 xl] 62)
   have HKx:=k8 (hKr.trans (hBx.mono (bsz hKr)))
   have HAg:=k8 (again_any (j5.below hMr hBx) xn)
   generalize ((p.secrets.map (·.name)).take k).foldl twG ([],false)=st at *
   obtain ⟨sl,sb⟩:=st
   simp only at HAg HSt
   clear hKr hMr hBx
   go_wp2_with fail
   refine HAg.out.mono ?_
   rintro e w2 ⟨rfl,hM2,hg2,hz2⟩
   have HK2:=k8 (HKx.out.grown hg2 (bsz HKx.out) (fun b hb=>by simp only [Option.some.injEq] at hb;omega))
   have HM2:=k8 hM2
   clear hM2 hg2 hz2 HAg q0 q1
   cases hsc:zf sl xn with
   | true=>
    have HSt2:Hid ((List.take (k+1) (p.secrets.map (·.name))).foldl twG ([],false)=(aput sl xn true,true)):=by show _=_;rw [HSt.out,twG,hsc];rfl
    clear hsc HSt
    go_wp2_with fail
    go_roundw
    case rel=>exact ⟨k+1,hlt,by go_num,by rw [HSt2.out],HK2.out,by rw [HSt2.out];exact HM2.out⟩
    case measure=>simp [intOf];omega
   | false=>
    have HSt2:Hid ((List.take (k+1) (p.secrets.map (·.name))).foldl twG ([],false)=(aput sl xn true,sb)):=by show _=_;rw [HSt.out,twG,hsc];rfl
    clear hsc HSt
    go_wp2_with fail
    go_roundw
    case rel=>exact ⟨k+1,hlt,by go_num,by rw [HSt2.out],HK2.out,by rw [HSt2.out];exact HM2.out⟩
    case measure=>simp [intOf];omega
  ·have hkk:k=p.secrets.length:=by omega
   subst hkk
   rw [ww (by simp)] at hMr ⊢
   obtain ⟨st,hst⟩:∃ st,st=(p.secrets.map (·.name)).foldl twG ([],false):=⟨_,rfl⟩
   have HSt:=k8 hst
   have hRR:=HR.out
   rw [← hst] at hMr hRR ⊢
   have HR:=k8 hRR
   have HCl:=k8 (mclone_any hMr)
   have HM:=k8 hMr
   have HK:=k8 hKr
   have hsl:=hMr.lt
   have HSl:=k8 hsl
   clear hMr hKr hst hsl hRR
   go_wp2_with fail
   refine HCl.out.mono ?_
   rintro e w2 ⟨rfl,hM2,hB2,hz2⟩
   have hK2:=HK.out.trans (hB2.mono (bsz HK.out))
   have HK2:=k8 hK2
   have HC2:=k8 hM2
   have HM2:=k8 (j5.below HM.out hB2)
   have hx0:=(hK2.cell (p:=⟨w.heap.size,0,none⟩) (Nat.lt_succ_self _)).trans HX0.out
   have hx1:=(hK2.cell (p:=⟨w.heap.size,1,none⟩) (Nat.lt_succ_self _)).trans HX1.out
   have hxl:=k9 w2 _ hx0
   obtain ⟨cb,hcb⟩:∃ cb,wr.heap.size=cb:=⟨_,rfl⟩
   have hcb2:w.heap.size+1<cb:=by rw [← hcb];exact HSl.out
   rw [hcb] at HC2 hz2 ⊢
   clear hM2 hB2 hK2 HCl HK HM HSl hcb
   go_wp2_with fail
   clear hx0 hx1 hxl
   go_loopw [5,36] (fun bv iv wr=>∃ k:Nat,k≤p.funcs.length∧iv=.int .i64 k∧bv=.bool ((p.funcs.take k).foldl (twiceF st.1) st).2∧Below (w.heap.size+1) (w.alloc (.cells #[.slice a0 p.secrets.length c0,.slice a1 p.funcs.length c1] 25)) wr∧MapB wr (w.heap.size+1) ((p.funcs.take k).foldl (twiceF st.1) st).1∧MapB wr cb st.1∧cb<wr.heap.size) (fun _ iv _=>p.funcs.length - (intOf iv).toNat)
   case atStart=>exact ⟨0,gj _,rfl,rfl,HK2.out,HM2.out,HC2.out,by omega⟩
   case round=>
    obtain ⟨k,hk,rfl,rfl,hKr,hMr,hCr,hzr⟩:=hrel
    by_cases hlt:k<p.funcs.length
    ·obtain ⟨_,_,he,_,_,hr⟩:=HS1.out
     simp only [Value.slice.injEq] at he
     obtain ⟨rfl,-,rfl⟩:=he
     obtain ⟨b,o,rfl,hro⟩:=hr (by intro h;rw [h] at hlt;simp at hlt)
     have hBr:=HB0.out.trans ((HB.out.trans (hKr.mono (by omega))).mono HB0.out.size)
     obtain ⟨x0,z0,x1,z1,j0,j1,j2,j3,hPs,-⟩:=funIs_at (hro k p.funcs[k] (by simp [hlt]))
     have q0:=jb hBr j0
     have q1:=jb hBr j1
     have q2:=jb hBr j2
     have q3:=jb hBr j3
     have hbb:=k9 wr _ q0
     have hst:=yq (twiceF st.1) st p.funcs k hlt
     have HSt2:=k8 hst
     clear hr hro hBr hst j0 j1 j2 j3
     generalize p.funcs[k]=x at *
     obtain ⟨fn,fo,fps,fbd⟩:=x
     simp only at q0 q1 q2 q3 hPs
     have hBx:=(wu wr.heap.size wr).alloc (wo _) (.cells #[.string fn,.bool fo,.slice x0 fps.length z0,.slice x1 fbd.length z1] 47)
     have HKx:=k8 (hKr.trans (hBx.mono (bsz hKr)))
     have HAg:=k8 (again_any (j5.below hMr hBx) fn)
     have HCx:=k8 (j5.below hCr hBx)
     have HPs:=k8 hPs
     have hy2:(wr.alloc (.cells #[.string fn,.bool fo,.slice x0 fps.length z0,.slice x1 fbd.length z1] 47)).cell? ⟨wr.heap.size,2,none⟩=some (.slice x0 fps.length z0):=by simp
     have HY2:=k8 hy2
     generalize (p.funcs.take k).foldl (twiceF st.1) st=s2 at *
     obtain ⟨sl,sb⟩:=s2
     simp only at HAg HSt2
     clear hKr hMr hBx hCr hPs hy2
     go_wp2_with fail
     refine HAg.out.mono ?_
     rintro e w3 ⟨rfl,hM3,hg3,hz3⟩
     have hK3:=HKx.out.grown hg3 (bsz HKx.out) (fun b hb=>by simp only [Option.some.injEq] at hb;omega)
     have hC3:=j5.grown HCx.out hg3 (by simp;omega)
     have hy3:w3.cell? ⟨wr.heap.size,2,none⟩=some (.slice x0 fps.length z0):=(World.cell?_of_block (a:=⟨wr.heap.size,2,none⟩) (hg3.block wr.heap.size (by simp) (by simp;omega))).trans HY2.out
     have HK3:=k8 hK3
     have HC3:=k8 hC3
     have HM3:=k8 hM3
     have HY3:=k8 hy3
     have hz3':w3.heap.size=wr.heap.size+1:=by rw [hz3];simp
     have HCl:=k8 (mclone_any hC3)
     generalize hxb:wr.heap.size=xb at *
     clear hM3 hg3 hz3 HAg q0 q1 q2 q3 hK3 hC3 hy3 HKx HCx HY2 hxb
     obtain ⟨b1,hb1⟩:∃ b1,b1=(zf sl fn || sb):=⟨_,rfl⟩
     have HB1:=k8 hb1
     cases hsc:zf sl fn with
     | true=>
      rw [hsc] at hb1
      have HSC:=k8 hsc
      clear hsc hb1 HB1
      go_wp2_with fail
      refine HCl.out.mono ?_
      rintro e w4 ⟨rfl,hM4,hB4,hz4⟩
      have hK4:=HK3.out.trans (hB4.mono (bsz HK3.out))
      have hy4:=jb hB4 HY3.out
      have hyl:=k9 w4 _ hy4
      have HK4:=k8 hK4
      have HC4:=k8 (j5.below HC3.out hB4)
      have HM4:=k8 (j5.below HM3.out hB4)
      have HO4:=k8 hM4
      have hs3:=HC3.out.lt
      have hs4:=HM3.out.lt
      obtain ⟨ob,hob⟩:∃ ob,w3.heap.size=ob:=⟨_,rfl⟩
      rw [hob] at HO4 hz4 hs3 hs4 ⊢
      clear hM4 hB4 hK4 HCl HK3 HC3 HM3 HY3 hob hz3'
      go_wp2_with fail
      clear hy4 hyl
      go_loopw [5,53] (fun bv iv wr=>∃ m:Nat,m≤fps.length∧iv=.int .i64 m∧bv=.bool (((fps.map (·.name)).take m).foldl twG (st.1,true)).2∧Below (w.heap.size+1) (w.alloc (.cells #[.slice a0 p.secrets.length c0,.slice (some ⟨b,o,none⟩) p.funcs.length c1] 25)) wr∧MapB wr (w.heap.size+1) (aput sl fn true)∧MapB wr cb st.1∧MapB wr ob (((fps.map (·.name)).take m).foldl twG (st.1,true)).1∧ob<wr.heap.size) (fun _ iv _=>fps.length - (intOf iv).toNat)
      case atStart=>exact ⟨0,gj _,rfl,rfl,HK4.out,HM4.out,HC4.out,HO4.out,by omega⟩
      case round=>
       obtain ⟨m,hm,rfl,rfl,hKr,hMr,hCr,hOr,hzr2⟩:=hrel
       by_cases hltm:m<fps.length
       ·obtain ⟨_,_,he,_,_,hr⟩:=HPs.out
        simp only [Value.slice.injEq] at he
        obtain ⟨rfl,-,rfl⟩:=he
        obtain ⟨b,o,rfl,hro⟩:=hr (by intro h;rw [h] at hltm;simp at hltm)
        have hBr:=HB0.out.trans ((HB.out.trans (hKr.mono (by omega))).mono HB0.out.size)
        have hpa:=hro m fps[m] (by simp [hltm])
        have q0:=jb hBr hpa.1.1
        have q1:=jb hBr hpa.2.1
        have q2:=jb hBr hpa.2.2.1
        have hbb:=k9 wr _ q0
        have hlt2:m<(fps.map (·.name)).length:=by simpa using hltm
        have hst:=yq twG (st.1,true) (fps.map (·.name)) m hlt2
        rw [List.getElem_map] at hst
        have HSt5:=k8 hst
        clear hr hro hpa hBr hst
        generalize fps[m]=q at *
        obtain ⟨qn,qk,ql⟩:=q
        simp only at q0 q1 q2
        have hBx:=(wu wr.heap.size wr).alloc (wo _) (.cells #[.string qn,.int .i64 qk,.int .i64 ql] 56)
        have HKx:=k8 (hKr.trans (hBx.mono (bsz hKr)))
        have HAg:=k8 (again_any (j5.below hOr hBx) qn)
        have HMx:=k8 (j5.below hMr hBx)
        have HCx:=k8 (j5.below hCr hBx)
        generalize ((fps.map (·.name)).take m).foldl twG (st.1,true)=s5 at *
        obtain ⟨ol,ob2⟩:=s5
        simp only at HAg HSt5
        clear hKr hMr hBx hCr hOr
        go_wp2_with fail
        refine HAg.out.mono ?_
        rintro e w5 ⟨rfl,hM5,hg5,hz5⟩
        have HK5:=k8 (HKx.out.grown hg5 (bsz HKx.out) (fun b hb=>by simp only [Option.some.injEq] at hb;omega))
        have HM5:=k8 (j5.grown HMx.out hg5 (by simp;omega))
        have HC5:=k8 (j5.grown HCx.out hg5 (by simp;omega))
        have HO5:=k8 hM5
        have hz6:ob<w5.heap.size:=by rw [hz5];simp;omega
        clear hM5 hg5 hz5 HAg q0 q1 q2
        cases hsc:zf ol qn with
        | true=>
         have HSt6:Hid ((List.take (m+1) (fps.map (·.name))).foldl twG (st.1,true)=(aput ol qn true,true)):=by show _=_;rw [HSt5.out,twG,hsc];rfl
         clear hsc HSt5
         go_wp2_with fail
         go_roundw
         case rel=>exact ⟨m+1,hltm,by go_num,by rw [HSt6.out],HK5.out,HM5.out,HC5.out,by rw [HSt6.out];exact HO5.out,hz6⟩
         case measure=>simp [intOf];omega
        | false=>
         have HSt6:Hid ((List.take (m+1) (fps.map (·.name))).foldl twG (st.1,true)=(aput ol qn true,ob2)):=by show _=_;rw [HSt5.out,twG,hsc];rfl
         clear hsc HSt5
         go_wp2_with fail
         go_roundw
         case rel=>exact ⟨m+1,hltm,by go_num,by rw [HSt6.out],HK5.out,HM5.out,HC5.out,by rw [HSt6.out];exact HO5.out,hz6⟩
         case measure=>simp [intOf];omega
       ·have hmm:m=fps.length:=by omega
        subst hmm
        rw [ww (by simp)]
        have HSt7:Hid ((List.take (k+1) p.funcs).foldl (twiceF st.1) st=(aput sl fn true,((fps.map (·.name)).foldl twG (st.1,true)).2)):=by
         show _=_
         rw [HSt2.out]
         unfold twiceF
         simp only [againAll_eq,List.foldl_cons,List.foldl_nil,twG,HSC.out,Bool.true_or]
         try rfl
        have HKe:=k8 hKr
        have HMe:=k8 hMr
        have HCe:=k8 hCr
        clear hKr hMr hCr hOr
        go_wp2_with fail
        go_roundw
        case rel=>exact ⟨k+1,hlt,by go_num,by rw [HSt7.out],HKe.out,by rw [HSt7.out];exact HMe.out,HCe.out,by omega⟩
        case measure=>simp [intOf];omega
     | false=>
      rw [hsc] at hb1
      have HSC:=k8 hsc
      clear hsc hb1 HB1
      go_wp2_with fail
      refine HCl.out.mono ?_
      rintro e w4 ⟨rfl,hM4,hB4,hz4⟩
      have hK4:=HK3.out.trans (hB4.mono (bsz HK3.out))
      have hy4:=jb hB4 HY3.out
      have hyl:=k9 w4 _ hy4
      have HK4:=k8 hK4
      have HC4:=k8 (j5.below HC3.out hB4)
      have HM4:=k8 (j5.below HM3.out hB4)
      have HO4:=k8 hM4
      have hs3:=HC3.out.lt
      have hs4:=HM3.out.lt
      obtain ⟨ob,hob⟩:∃ ob,w3.heap.size=ob:=⟨_,rfl⟩
      rw [hob] at HO4 hz4 hs3 hs4 ⊢
      clear hM4 hB4 hK4 HCl HK3 HC3 HM3 HY3 hob hz3'
      go_wp2_with fail
      clear hy4 hyl
      go_loopw [5,53] (fun bv iv wr=>∃ m:Nat,m≤fps.length∧iv=.int .i64 m∧bv=.bool (((fps.map (·.name)).take m).foldl twG (st.1,sb)).2∧Below (w.heap.size+1) (w.alloc (.cells #[.slice a0 p.secrets.length c0,.slice (some ⟨b,o,none⟩) p.funcs.length c1] 25)) wr∧MapB wr (w.heap.size+1) (aput sl fn true)∧MapB wr cb st.1∧MapB wr ob (((fps.map (·.name)).take m).foldl twG (st.1,sb)).1∧ob<wr.heap.size) (fun _ iv _=>fps.length - (intOf iv).toNat)
      case atStart=>exact ⟨0,gj _,rfl,rfl,HK4.out,HM4.out,HC4.out,HO4.out,by omega⟩
      case round=>
       obtain ⟨m,hm,rfl,rfl,hKr,hMr,hCr,hOr,hzr2⟩:=hrel
       by_cases hltm:m<fps.length
       ·obtain ⟨_,_,he,_,_,hr⟩:=HPs.out
        simp only [Value.slice.injEq] at he
        obtain ⟨rfl,-,rfl⟩:=he
        obtain ⟨b,o,rfl,hro⟩:=hr (by intro h;rw [h] at hltm;simp at hltm)
        have hBr:=HB0.out.trans ((HB.out.trans (hKr.mono (by omega))).mono HB0.out.size)
        have hpa:=hro m fps[m] (by simp [hltm])
        have q0:=jb hBr hpa.1.1
        have q1:=jb hBr hpa.2.1
        have q2:=jb hBr hpa.2.2.1
        have hbb:=k9 wr _ q0
        have hlt2:m<(fps.map (·.name)).length:=by simpa using hltm
        have hst:=yq twG (st.1,sb) (fps.map (·.name)) m hlt2
        rw [List.getElem_map] at hst
        have HSt5:=k8 hst
        clear hr hro hpa hBr hst
        generalize fps[m]=q at *
        obtain ⟨qn,qk,ql⟩:=q
        simp only at q0 q1 q2
        have hBx:=(wu wr.heap.size wr).alloc (wo _) (.cells #[.string qn,.int .i64 qk,.int .i64 ql] 56)
        have HKx:=k8 (hKr.trans (hBx.mono (bsz hKr)))
        have HAg:=k8 (again_any (j5.below hOr hBx) qn)
        have HMx:=k8 (j5.below hMr hBx)
        have HCx:=k8 (j5.below hCr hBx)
        generalize ((fps.map (·.name)).take m).foldl twG (st.1,sb)=s5 at *
        obtain ⟨ol,ob2⟩:=s5
        simp only at HAg HSt5
        clear hKr hMr hBx hCr hOr
        go_wp2_with fail
        refine HAg.out.mono ?_
        rintro e w5 ⟨rfl,hM5,hg5,hz5⟩
        have HK5:=k8 (HKx.out.grown hg5 (bsz HKx.out) (fun b hb=>by simp only [Option.some.injEq] at hb;omega))
        have HM5:=k8 (j5.grown HMx.out hg5 (by simp;omega))
        have HC5:=k8 (j5.grown HCx.out hg5 (by simp;omega))
        have HO5:=k8 hM5
        have hz6:ob<w5.heap.size:=by rw [hz5];simp;omega
        clear hM5 hg5 hz5 HAg q0 q1 q2
        cases hsc:zf ol qn with
        | true=>
         have HSt6:Hid ((List.take (m+1) (fps.map (·.name))).foldl twG (st.1,sb)=(aput ol qn true,true)):=by show _=_;rw [HSt5.out,twG,hsc];rfl
         clear hsc HSt5
         go_wp2_with fail
         go_roundw
         case rel=>exact ⟨m+1,hltm,by go_num,by rw [HSt6.out],HK5.out,HM5.out,HC5.out,by rw [HSt6.out];exact HO5.out,hz6⟩
         case measure=>simp [intOf];omega
        | false=>
         have HSt6:Hid ((List.take (m+1) (fps.map (·.name))).foldl twG (st.1,sb)=(aput ol qn true,ob2)):=by show _=_;rw [HSt5.out,twG,hsc];rfl
         clear hsc HSt5
         go_wp2_with fail
         go_roundw
         case rel=>exact ⟨m+1,hltm,by go_num,by rw [HSt6.out],HK5.out,HM5.out,HC5.out,by rw [HSt6.out];exact HO5.out,hz6⟩
         case measure=>simp [intOf];omega
       ·have hmm:m=fps.length:=by omega
        subst hmm
        rw [ww (by simp)]
        have HSt7:Hid ((List.take (k+1) p.funcs).foldl (twiceF st.1) st=(aput sl fn true,((fps.map (·.name)).foldl twG (st.1,sb)).2)):=by
         show _=_
         rw [HSt2.out]
         unfold twiceF
         simp only [againAll_eq,List.foldl_cons,List.foldl_nil,twG,HSC.out,Bool.false_or]
         try rfl
        have HKe:=k8 hKr
        have HMe:=k8 hMr
        have HCe:=k8 hCr
        clear hKr hMr hCr hOr
        go_wp2_with fail
        go_roundw
        case rel=>exact ⟨k+1,hlt,by go_num,by rw [HSt7.out],HKe.out,by rw [HSt7.out];exact HMe.out,HCe.out,by omega⟩
        case measure=>simp [intOf];omega
    ·have hkk:k=p.funcs.length:=by omega
     subst hkk
     rw [ww (wo _),← HR.out]
     have HF:=k8 (HB.out.trans (hKr.mono (by omega)))
     clear hKr hMr hCr
     go_wp2_with fail
     go_ret
     exact ⟨rfl,HF.out⟩
end
section
open Go.RowKit
def CRet (w:World) (c:Int) (e:Ending) (w':World):Prop:=Below w.heap.size w w'∧(if c=0 then e=.returned (.tuple #[]) else e=.panicked [yu c])
theorem scatch_idle (p:Addr) (w:World) :
  CallsD Tryz.prog 70 #[.pointer (some p)] .returning w fun e u' w'=>e=.returned (.tuple #[])∧u'=.returning∧w'=w:=by
 refine callsD_of_wpS Tryz.func70 rfl fun c₀ cs hu=>?_
 change Code.wpS _ _ _ { tmps:=#[.pointer (some p),undef,undef,undef,undef,undef,undef,undef,undef,undef,undef,undef],defers:=[] } _ _
 apply wpS_seq
 apply wpS_region
 simp [wpOpsS,go_sem,recoverD,hu,Exit.thenS]
 refine wpS_of_wp ?_
 go_wp2
 cases c₀
 simp_all [bodyPostS,results,Tryz.results70]
theorem scatch_wrong (p:Addr) (x code:Int) (w:World) (hc:w.cell? p=some (.int .i64 x)) (hz:w.frozen? p=false) :
  CallsD Tryz.prog 70 #[.pointer (some p)] (.panicking [yu code]) w fun e u' w'=>
   e=.returned (.tuple #[])∧u'=.panicking [{ v:=.iface 122 (.agg #[.int .i64 code]),recovered:=true }]∧w'=(w.alloc (.cells #[.int .i64 code] 122)).setCell p (.int .i64 code):=by
 refine callsD_of_wpS Tryz.func70 rfl fun c₀ cs hu=>?_
 have hta:∀ w,(Instr.typeAssert (.iface 122 (.agg #[.int .i64 code])) 20 122 true).run Tryz.prog w=.ok (.tuple #[.agg #[.int .i64 code],.bool true]) w:=fun _=>by kernel_rfl
 have hne:∀ w,(binOp .eql 20 (.iface 122 (.agg #[.int .i64 code])) .nilIface).run Tryz.prog w=.ok (.bool false) w:=fun _=>by kernel_rfl
 have hb:p.block<w.heap.size:=k9 w _ hc
 have c1:(w.alloc (.cells #[.int .i64 code] 122)).cell? p=some (.int .i64 x):=(World.cell?_alloc_lt w _ p hb).trans hc
 have z1:(w.alloc (.cells #[.int .i64 code] 122)).frozen? p=false:=(World.frozen?_alloc_old w _ p (Nat.ne_of_lt hb)).trans hz
 change Code.wpS _ _ _ { tmps:=#[.pointer (some p),undef,undef,undef,undef,undef,undef,undef,undef,undef,undef,undef],defers:=[] } _ _
 apply wpS_seq
 apply wpS_region
 simp [wpOpsS,go_sem,recoverD,hu,Exit.thenS,yu]
 refine wpS_of_wp ?_
 go_wp2
 cases c₀
 simp_all [bodyPostS,results,Tryz.results70]
theorem scaught_any (g:Nat) (eg:∀ args w,(callFunc g args).run Tryz.prog w=.ok (.enter g args) w) (pv:Value) (c:Int) (w:World) (HT:Hid (∀ w1,Below w.heap.size w w1→Calls Tryz.prog g #[pv] w1 (CRet w1 c))) :
  Calls Tryz.prog 40 #[.func (.func g) #[] #[pv]] w (Ret w (.int .i64 c)):=by
 have hmf:∀ (fn:Fn) (first cap:Array Value) (w:World),(Instr.makeFunc fn first cap).run Tryz.prog w=.ok (.func fn first cap) w:=fun _ _ _ _=>rfl
 have HB0:=k8 ((wu w.heap.size w).alloc (wo _) (.cells #[.int .i64 0] 38))
 go_enter_defers Tryz.func40,Tryz.ntmps40
 go_wp2_with fail
 refine (HT.out _ HB0.out).mono ?_
 rintro e w1 ⟨hB,he⟩
 have HB1:=k8 (jg HB0.out (by simp) hB)
 have hc0:w1.cell? ⟨w.heap.size,0,none⟩=some (.int .i64 0):=(hB.cell (by simp)).trans (by simp [go_sem])
 have hz0:w1.frozen? ⟨w.heap.size,0,none⟩=false:=(hB.frozen (by simp)).trans (by simp [go_sem])
 clear hB
 have hbl:w.heap.size<w1.heap.size:=k9 w1 _ hc0
 by_cases hcc:c=0
 ·subst hcc
  rw [if_pos rfl] at he
  subst he
  go_wp2_with fail
  have hB2:=HB1.out.setCell (p:=⟨w.heap.size,0,none⟩) (wo _) (.int .i64 0)
  have g0:(w1.setCell ⟨w.heap.size,0,none⟩ (.int .i64 0)).cell? ⟨w.heap.size,0,none⟩=some (.int .i64 0):=World.cell?_setCell_same _ _ _ (u:=.int .i64 0) hc0
  have HB2:=k8 hB2
  clear hB2
  generalize w1.setCell ⟨w.heap.size,0,none⟩ (.int .i64 0)=W at *
  have hE:Ret w (.int .i64 0) (.returned (.int .i64 0)) W:=⟨rfl,HB2.out⟩
  clear hc0 hz0
  refine leaves_cons (f:=70) (args:=#[.pointer (some ⟨w.heap.size,0,none⟩)]) (by simp) (by simp [go_sem]) ?_
  refine (scatch_idle ⟨w.heap.size,0,none⟩ _).mono ?_
  rintro e u' w'' ⟨rfl,rfl,rfl⟩
  simp [Leaves,settle,results,Tryz.results40,go_sem,g0]
  exact hE
 ·rw [if_neg hcc] at he
  subst he
  go_wp2_with fail
  refine leaves_cons (f:=70) (args:=#[.pointer (some ⟨w.heap.size,0,none⟩)]) (by simp) (by simp [go_sem]) ?_
  refine (scatch_wrong ⟨w.heap.size,0,none⟩ _ c _ hc0 hz0).mono ?_
  rintro e u' w'' ⟨rfl,rfl,rfl⟩
  have hB2:=(HB1.out.alloc HB1.out.size (.cells #[.int .i64 c] 122)).setCell (p:=⟨w.heap.size,0,none⟩) (wo _) (.int .i64 c)
  have g0:((w1.alloc (.cells #[.int .i64 c] 122)).setCell ⟨w.heap.size,0,none⟩ (.int .i64 c)).cell? ⟨w.heap.size,0,none⟩=some (.int .i64 c):=
   World.cell?_setCell_same _ _ _ (u:=.int .i64 0) (by rw [World.cell?_alloc_past _ _ _ hbl];exact hc0)
  have HB2:=k8 hB2
  clear hB2
  generalize (w1.alloc (.cells #[.int .i64 c] 122)).setCell ⟨w.heap.size,0,none⟩ (.int .i64 c)=W at *
  have hE:Ret w (.int .i64 c) (.returned (.int .i64 c)) W:=⟨rfl,HB2.out⟩
  clear hc0 hz0
  simp [Leaves,settle,results,Tryz.results40,go_sem,g0]
  exact hE
end
section
open Go.RowKit
theorem zip_at {α:Type} (l:List α) (k:Nat) (h:k<l.length):l.zipIdx[k]'(by simpa using h)=(l[k],k):=by simp
theorem bsl_nil (w:World):BSl w (.slice none 0 0) []:=⟨none,0,rfl,wo _,by simp,fun _=>rfl,fun h=>absurd rfl h⟩
structure SrcBox (w0:World) (p:Src) (b:Nat) (a0:Option Addr) (c0:Nat) (a1:Option Addr) (c1:Nat) (w:World):Prop where
 h0:w.cell? ⟨b,0,none⟩=some (.slice a0 p.secrets.length c0)
 h1:w.cell? ⟨b,1,none⟩=some (.slice a1 p.funcs.length c1)
 src:kn w0 p (.agg #[.slice a0 p.secrets.length c0,.slice a1 p.funcs.length c1])
 below:Below w0.heap.size w0 w
 glob:Glob w
theorem SrcBox.next {w0:World} {p:Src} {b:Nat} {a0:Option Addr} {c0:Nat} {a1:Option Addr} {c1:Nat} {w w':World} (h:SrcBox w0 p b a0 c0 a1 c1 w) (hb:Below w.heap.size w w'):SrcBox w0 p b a0 c0 a1 c1 w':=
 ⟨jb hb h.h0,jb hb h.h1,h.src,h.below.trans (hb.mono h.below.size),h.glob.below hb⟩
def rightZ (p:Src):Int:=if p.funcs.zipIdx.all (fun x=>y0 p x.2 x.1)=false then 7 else if p.funcs.zipIdx.all (fun x=>zw p x.2 x.1 [] x.1.body && yi x.1)=false then 8 else 0
theorem rightS_eq (p:Src):kr p=if yh p=none then 1 else if twiceS p=true then 6 else rightZ p:=rfl
theorem right1_any {w0:World} {p:Src} {b:Nat} {a0:Option Addr} {c0:Nat} {a1:Option Addr} {c1:Nat} {w:World} (hWt:wtFs p.funcs≤100000) (hS:SrcBox w0 p b a0 c0 a1 c1 w) :
  Calls Tryz.prog 64 #[.pointer (some ⟨b,0,none⟩)] w (CRet w (kr p)):=by
 have hPr:=print_any p _ w (by
  obtain ⟨x0,x1,x2,x3,x4,x5,x6⟩:=hS.src
  exact ⟨x0,x1,x2,x3,x4,x5.imp (fun b o x _ hx=>ArrAt.below hS.below x b o hx),x6.imp (fun b o x _ hx=>FunAt.below hS.below x b o hx)⟩) hWt hS.glob
 have HPr:=k8 hPr
 have HS:=k8 hS
 have hfl:p.funcs.length≤140737488351232:=by
  obtain ⟨_,hsf⟩:=srcIs_at hS.src
  obtain ⟨_,_,_,_,h,_⟩:=hsf
  exact h
 have h0:=hS.h0
 have h1:=hS.h1
 have hbl:=k9 w _ h0
 have hrs:=rightS_eq p
 have hpc:(printed p).2=if yh p=none then 1 else (printed p).2:=by
  unfold printed
  cases yh p<;>simp
 have hpn:yh p≠none→(printed p).2≠1:=by
  intro h
  unfold printed
  cases hs:yh p with
  | none=>exact absurd hs h
  | some t=>simp only;split<;>simp
 have HWt:=k8 hWt
 generalize S (printed p).1=tx at *
 obtain ⟨pc,hpc2⟩:∃ pc,(printed p).2=pc:=⟨_,rfl⟩
 rw [hpc2] at HPr hpc hpn
 obtain ⟨R,hR⟩:∃ R,R=kr p:=⟨_,rfl⟩
 rw [← hR] at hrs ⊢
 have HR:=k8 hrs
 clear hPr hS hrs hR hWt hpc2
 have hcp:(yh p=none∧pc=1)∨(yh p≠none∧pc≠1):=by
  by_cases h:yh p=none
  ·rw [if_pos h] at hpc;exact .inl ⟨h,hpc⟩
  ·exact .inr ⟨h,hpn h⟩
 clear hpc hpn
 go_enter Tryz.func64,Tryz.ntmps64
 go_wp2_with fail
 refine HPr.out.mono ?_
 rintro e w1 ⟨rfl,hB1⟩
 have HB1:=k8 hB1
 have HS1:=k8 (HS.out.next hB1)
 clear hB1 HPr HS h0 h1 hbl
 rcases hcp with ⟨hs,hp1⟩|⟨hs,hp1⟩
 ·subst hp1
  have HRv:Hid (R=1):=by show _=_;rw [HR.out,if_pos hs]
  clear hs HR
  go_wp2_with fail
  refine (zd 1 _).mono ?_
  rintro e' w2 ⟨rfl,rfl⟩
  go_wp2
  exact ⟨rfl,HB1.out,by rw [HRv.out];rfl⟩
 have tp:(pc != 1)=true:=by simpa using hp1
 have HR2:Hid (R=if twiceS p=true then 6 else rightZ p):=by show _=_;rw [HR.out,if_neg hs]
 have HTw:=k8 (twice_any _ w1 HS1.out.below HS1.out.src)
 have h0:=HS1.out.h0
 have h1:=HS1.out.h1
 have hbl:=k9 w1 _ h0
 clear hs hp1 HR
 generalize twiceS p=tw at *
 go_wp2_with fail
 refine (zn 1 _).mono ?_
 rintro e' w2 ⟨rfl,rfl⟩
 go_wp2_with fail
 refine HTw.out.mono ?_
 rintro e' w2 ⟨rfl,hB2⟩
 have HB2:=k8 (HB1.out.trans (hB2.mono HB1.out.size))
 have HS2:=k8 (HS1.out.next hB2)
 clear hB2 HTw HB1 HS1 h0 h1 hbl
 cases tw with
 | true=>
  have HRv:Hid (R=6):=by show _=_;rw [HR2.out,if_pos rfl]
  clear HR2
  go_wp2_with fail
  refine (zd 6 _).mono ?_
  rintro e' w3 ⟨rfl,rfl⟩
  go_wp2
  exact ⟨rfl,HB2.out,by rw [HRv.out];rfl⟩
 | false=>
 have HR3:Hid (R=rightZ p):=by show _=_;rw [HR2.out,if_neg (by decide)]
 clear HR2
 have h0:=HS2.out.h0
 have h1:=HS2.out.h1
 have hbl:=k9 w2 _ h0
 go_wp2_with fail
 refine (zn 6 _).mono ?_
 rintro e' w3 ⟨rfl,rfl⟩
 go_wp2_with fail
 clear h0 h1 hbl
 go_loopw [22] (fun iv wr=>∃ k:Nat,k≤p.funcs.length∧iv=.int .i64 k∧Below w.heap.size w wr∧SrcBox w0 p b a0 c0 a1 c1 wr∧(p.funcs.zipIdx.take k).all (fun x=>y0 p x.2 x.1)=true) (fun iv _=>p.funcs.length - (intOf iv).toNat)
 case atStart=>exact ⟨0,gj _,rfl,HB2.out,HS2.out,rfl⟩
 case round=>
  obtain ⟨k,hk,rfl,hKr,hSr,hall⟩:=hrel
  have h0:=hSr.h0
  have h1:=hSr.h1
  have hbl:=k9 wr _ h0
  by_cases hlt:k<p.funcs.length
  ·have hf:p.funcs[k]?=some p.funcs[k]:=List.getElem?_eq_getElem hlt
   have hzl:k<p.funcs.zipIdx.length:=by simpa using hlt
   have hAT:=x9 (fun x:Fun×Nat=>y0 p x.2 x.1) p.funcs.zipIdx k hzl
   have hAF:=ym (fun x:Fun×Nat=>y0 p x.2 x.1) p.funcs.zipIdx k hzl
   rw [zip_at p.funcs k hlt] at hAT hAF
   rw [hall,Bool.true_and] at hAT
   simp only at hAT hAF
   have HAT:=k8 hAT
   have HAF:=k8 hAF
   have HLk:=k8 (look_any w0 p k _ hf _ wr hSr.below hSr.src)
   have HKr:=k8 hKr
   have HSr:=k8 hSr
   clear hAT hAF hall hKr hSr
   go_wp2_with fail
   refine HLk.out.mono ?_
   rintro e w3 ⟨hB3,nb,na,np,ns,nt,rfl,-,-,-,-,-,hv,-,-⟩
   have hS3:=HSr.out.next hB3
   have HDf:=k8 (defined_any hS3.below hv)
   have HB3:=k8 (HKr.out.trans (hB3.mono HKr.out.size))
   have HS3:=k8 hS3
   clear hB3 hv hS3 h0 h1 hbl HLk
   generalize y0 p k p.funcs[k]=d at *
   go_wp2_with fail
   refine HDf.out.mono ?_
   rintro e w4 ⟨hB4,he⟩
   have HB4:=k8 (HB3.out.trans (hB4.mono HB3.out.size))
   have HS4:=k8 (HS3.out.next hB4)
   clear hB4
   cases d with
   | true=>
    rw [if_pos rfl] at he
    subst he
    go_wp2_with fail
    go_roundw
    case rel=>exact ⟨k+1,hlt,by go_num,HB4.out,HS4.out,HAT.out⟩
    case measure=>simp [intOf];omega
   | false=>
    rw [if_neg (by decide)] at he
    subst he
    have HRv:Hid (R=7):=by show _=_;rw [HR3.out,rightZ,HAF.out rfl];rfl
    clear HAF HAT HR3
    go_wp2
    exact ⟨rfl,HB4.out,by rw [HRv.out];rfl⟩
  ·have hkk:k=p.funcs.length:=by omega
   subst hkk
   rw [ww (by simp)] at hall
   have HR4:Hid (R=if p.funcs.zipIdx.all (fun x=>zw p x.2 x.1 [] x.1.body && yi x.1)=false then 8 else 0):=by show _=_;rw [HR3.out,rightZ,hall];rfl
   have HDef:=k8 (fun (k:Nat) (f:Fun) (hf:p.funcs[k]?=some f)=>zip_all (g:=fun x=>y0 p x.2 x.1) hall hf)
   have HKr:=k8 hKr
   have HSr:=k8 hSr
   clear hall hKr hSr HR3
   go_wp2_with fail
   clear h0 h1 hbl
   go_loopw [33] (fun iv wr=>∃ k:Nat,k≤p.funcs.length∧iv=.int .i64 k∧Below w.heap.size w wr∧SrcBox w0 p b a0 c0 a1 c1 wr∧(p.funcs.zipIdx.take k).all (fun x=>zw p x.2 x.1 [] x.1.body && yi x.1)=true) (fun iv _=>p.funcs.length - (intOf iv).toNat)
   case atStart=>exact ⟨0,gj _,rfl,HKr.out,HSr.out,rfl⟩
   case round=>
    obtain ⟨k,hk,rfl,hKr,hSr,hall⟩:=hrel
    by_cases hlt:k<p.funcs.length
    ·have h0:=hSr.h0
     have h1:=hSr.h1
     have hbl:=k9 wr _ h0
     have hf:p.funcs[k]?=some p.funcs[k]:=List.getElem?_eq_getElem hlt
     have hzl:k<p.funcs.zipIdx.length:=by simpa using hlt
     have hAT:=x9 (fun x:Fun×Nat=>zw p x.2 x.1 [] x.1.body && yi x.1) p.funcs.zipIdx k hzl
     have hAF:=ym (fun x:Fun×Nat=>zw p x.2 x.1 [] x.1.body && yi x.1) p.funcs.zipIdx k hzl
     rw [zip_at p.funcs k hlt] at hAT hAF
     rw [hall,Bool.true_and] at hAT
     simp only at hAT hAF
     have HAT:=k8 hAT
     have HAF:=k8 hAF
     obtain ⟨_,hsf⟩:=srcIs_at hSr.src
     obtain ⟨_,_,he,hcf2,hlf,hrf⟩:=hsf
     simp only [Value.slice.injEq] at he
     obtain ⟨rfl,-,rfl⟩:=he
     obtain ⟨fb,fo,rfl,hrow⟩:=hrf (by intro h;rw [h] at hlt;simp at hlt)
     obtain ⟨ga,gc,ha,hc,g0,g1,g2,g3,hgp,hgb⟩:=funIs_at (hrow k _ hf)
     have q0:=jb hSr.below g0
     have q1:=jb hSr.below g1
     have q2:=jb hSr.below g2
     have q3:=jb hSr.below g3
     have hbb:=k9 wr _ q0
     have hdf:=HDef.out k _ hf
     have hwf:=wx (wtFs_mem _ _ (gg hf)) HWt.out
     have hBx:=(wu wr.heap.size wr).alloc (wo _) (.cells #[.string p.funcs[k].name,.bool p.funcs[k].out,.slice ga p.funcs[k].params.length gc,.slice ha p.funcs[k].body.length hc] 47)
     have hSx:=hSr.next hBx
     have HLk:=k8 (look_any w0 p k _ hf _ _ hSx.below hSx.src)
     have HY3:=k8 (show (wr.alloc (.cells #[.string p.funcs[k].name,.bool p.funcs[k].out,.slice ga p.funcs[k].params.length gc,.slice ha p.funcs[k].body.length hc] 47)).cell? ⟨wr.heap.size,3,none⟩=some (.slice ha p.funcs[k].body.length hc) by simp)
     have HKx:=k8 (hKr.trans (hBx.mono hKr.size))
     have HSx:=k8 hSx
     have HGb:=k8 hgb
     have HDf:=k8 hdf
     have HWf:=k8 hwf
     clear hAT hAF hall hKr hSr hrf hrow hcf2 hgp hgb hdf hwf hBx hSx g0 g1 g2 g3 hf
     generalize p.funcs[k]=f at *
     go_wp2_with fail
     refine HLk.out.mono ?_
     rintro e w3 ⟨hB3,nb,na,np,ns,nt,rfl,-,-,-,-,-,hv,-,-⟩
     have hS3:=HSx.out.next hB3
     have y3:=jb hB3 HY3.out
     have hyl:=k9 w3 _ y3
     have HTy:=k8 (typed_any (wtSs f.body) f.body _ w3 [] _ (wo _) HWf.out (by simpa using HWf.out) hS3.below hv HGb.out (bsl_nil w3) (fun ev hev=>by have:=HDf.out;rw [y0,List.all_eq_true] at this;exact this ev hev))
     have HB3:=k8 (HKx.out.trans (hB3.mono HKx.out.size))
     have HS3:=k8 hS3
     have HV3:=k8 hv
     clear hB3 hv hS3 h0 h1 hbl HLk q0 q1 q2 q3 hbb
     generalize zw p k f [] f.body=d at *
     go_wp2_with fail
     refine HTy.out.mono ?_
     rintro e w4 ⟨hB4,he⟩
     have HB4:=k8 (HB3.out.trans (hB4.mono HB3.out.size))
     have hS4:=HS3.out.next hB4
     have HRe:=k8 (returns_any hS4.below (HV3.out.below hB4) HWf.out)
     have HS4:=k8 hS4
     clear hB4 hS4 y3 hyl HTy
     cases d with
     | false=>
      rw [if_neg (by decide)] at he
      subst he
      have HRv:Hid (R=8):=by show _=_;rw [HR4.out,HAF.out (by simp)];rfl
      clear HAF HAT HR4
      go_wp2
      exact ⟨rfl,HB4.out,by rw [HRv.out];rfl⟩
     | true=>
      rw [if_pos rfl] at he
      subst he
      generalize yi f=r at *
      go_wp2_with fail
      refine HRe.out.mono ?_
      rintro e w5 ⟨hB5,he⟩
      have HB5:=k8 (HB4.out.trans (hB5.mono HB4.out.size))
      have HS5:=k8 (HS4.out.next hB5)
      clear hB5 HRe
      cases r with
      | false=>
       rw [if_neg (by decide)] at he
       subst he
       have HRv:Hid (R=8):=by show _=_;rw [HR4.out,HAF.out (by simp)];rfl
       clear HAF HAT HR4
       go_wp2
       exact ⟨rfl,HB5.out,by rw [HRv.out];rfl⟩
      | true=>
       rw [if_pos rfl] at he
       subst he
       go_wp2_with fail
       go_roundw
       case rel=>exact ⟨k+1,hlt,by go_num,HB5.out,HS5.out,HAT.out⟩
       case measure=>simp [intOf];omega
    ·have hkk:k=p.funcs.length:=by omega
     subst hkk
     rw [ww (by simp)] at hall
     have HRv:Hid (R=0):=by show _=_;rw [HR4.out,hall];rfl
     have HKe:=k8 hKr
     clear hall hKr hSr HR4
     go_wp2_with fail
     go_end0
     exact ⟨HKe.out,by rw [HRv.out];rfl⟩
theorem right_any {w0:World} {p:Src} (hWt:wtFs p.funcs≤100000) (v:Value) (w:World) (hB0:Below w0.heap.size w0 w) (hI:kn w0 p v) (hg:Glob w) :
  Calls Tryz.prog 39 #[v] w (Ret w (.int .i64 (kr p))):=by
 have hI0:=hI
 obtain ⟨a0,c0,a1,c1,rfl,-,-⟩:=hI
 have hBl:=(wu w.heap.size w).alloc (wo _) (.cells #[.slice a0 p.secrets.length c0,.slice a1 p.funcs.length c1] 25)
 have hS:SrcBox w0 p w.heap.size a0 c0 a1 c1 (w.alloc (.cells #[.slice a0 p.secrets.length c0,.slice a1 p.funcs.length c1] 25)):=⟨by simp,by simp,hI0,hB0.trans (hBl.mono hB0.size),hg.below hBl⟩
 have hmf:∀ (fn:Fn) (first cap:Array Value) (w:World),(Instr.makeFunc fn first cap).run Tryz.prog w=.ok (.func fn first cap) w:=fun _ _ _ _=>rfl
 have HC:=k8 (scaught_any 64 (fun _ _=>by kernel_rfl) (.pointer (some ⟨w.heap.size,0,none⟩)) (kr p) _ (k8 fun w1 hb=>right1_any hWt (hS.next hb)))
 have HB:=k8 hBl
 clear hS hBl hg hI0 hB0 hWt
 generalize kr p=R at *
 go_enter Tryz.func39,Tryz.ntmps39
 go_wp2_with fail
 refine HC.out.mono ?_
 rintro e w1 ⟨rfl,hB1⟩
 have HB1:=k8 (HB.out.trans (hB1.mono HB.out.size))
 clear hB1
 go_wp2
 go_ret
 exact ⟨rfl,HB1.out⟩
end
section
open Go.RowKit
def checkZ (p:Src):Int:=if p.funcs.zipIdx.all (fun x=>keptF p x.2 x.1)=false then 9 else if (qf p p.funcs.length).all (fun n=>decide (n≤4000))=false then 4 else 0
theorem checkS_eq (p:Src):checkS p=if kr p≠0 then kr p else checkZ p:=rfl
theorem check1_any {w0:World} {p:Src} {b:Nat} {a0:Option Addr} {c0:Nat} {a1:Option Addr} {c1:Nat} {w:World} (hF:kg p) (hWt:wtFs p.funcs≤100000) (hS:SrcBox w0 p b a0 c0 a1 c1 w) :
  Calls Tryz.prog 41 #[.pointer (some ⟨b,0,none⟩)] w (CRet w (checkZ p)):=by
 have HWt:=k8 hWt
 have HF:=k8 hF
 have HS:=k8 hS
 have hfl:p.funcs.length≤32:=hF.many.2
 obtain ⟨R,hR⟩:∃ R,R=checkZ p:=⟨_,rfl⟩
 rw [← hR]
 have HR:=k8 hR
 have h0:=hS.h0
 have h1:=hS.h1
 have hbl:=k9 w _ h0
 clear hR hF hWt hS
 go_enter Tryz.func41,Tryz.ntmps41
 go_wp2_with fail
 clear h0 h1 hbl
 go_loopw [7] (fun iv wr=>∃ k:Nat,k≤p.funcs.length∧iv=.int .i64 k∧Below w.heap.size w wr∧SrcBox w0 p b a0 c0 a1 c1 wr∧(p.funcs.zipIdx.take k).all (fun x=>keptF p x.2 x.1)=true) (fun iv _=>p.funcs.length - (intOf iv).toNat)
 case atStart=>exact ⟨0,gj _,rfl,wu _ _,HS.out,rfl⟩
 case round=>
  obtain ⟨k,hk,rfl,hKr,hSr,hall⟩:=hrel
  have h0:=hSr.h0
  have h1:=hSr.h1
  have hbl:=k9 wr _ h0
  by_cases hlt:k<p.funcs.length
  ·have hf:p.funcs[k]?=some p.funcs[k]:=List.getElem?_eq_getElem hlt
   have hzl:k<p.funcs.zipIdx.length:=by simpa using hlt
   have hAT:=x9 (fun x:Fun×Nat=>keptF p x.2 x.1) p.funcs.zipIdx k hzl
   have hAF:=ym (fun x:Fun×Nat=>keptF p x.2 x.1) p.funcs.zipIdx k hzl
   rw [zip_at p.funcs k hlt] at hAT hAF
   rw [hall,Bool.true_and] at hAT
   simp only at hAT hAF
   have HAT:=k8 hAT
   have HAF:=k8 hAF
   have HLk:=k8 (look_any w0 p k _ hf _ wr hSr.below hSr.src)
   have HKr:=k8 hKr
   have HSr:=k8 hSr
   have HFf:=k8 (HF.out.funs k _ hf)
   have HWf:=k8 (wx (wtFs_mem _ _ (gg hf)) HWt.out)
   clear hAT hAF hall hKr hSr
   go_wp2_with fail
   refine HLk.out.mono ?_
   rintro e w3 ⟨hB3,nb,na,np,ns,nt,rfl,h4,h5,h6,h7,h8,hv,hms,hmt⟩
   have hS3:=HSr.out.next hB3
   have hT3:Told p nt w3:=⟨[],hmt,fun j b hj=>by cases hj⟩
   have HSp:=k8 (spread_any (fun j _=>result_any HF.out HWt.out j) hS3.below hv hms hT3 HFf.out.evs HWf.out HFf.out.params.1)
   have HB3:=k8 hB3
   clear hB3 hv hS3 h0 h1 hbl HLk hms hmt hT3
   go_wp2_with fail
   refine HSp.out.mono ?_
   rintro e w4 ⟨rfl,hK4,hv4,hs4,ht4⟩
   have hB4:Below wr.heap.size wr w4:=HB3.out.trans (hK4.below (B:=wr.heap.size) HB3.out.size (fun b hb=>by
    simp only [gh,List.not_mem_nil,or_false] at hb
    rcases hb with rfl|rfl
    ·exact h7
    ·exact h8))
   have hS4:=HSr.out.next hB4
   have HKp:=k8 (kept_any HF.out HWt.out HFf.out.evs hS4.below hv4 hs4 ht4)
   have HB4:=k8 hB4
   clear hK4 hv4 hs4 ht4 hB4 hS4 HSp
   generalize keptF p k p.funcs[k]=d at *
   go_wp2_with fail
   refine HKp.out.mono ?_
   rintro e w5 ⟨hK5,he⟩
   have hB5:Below wr.heap.size wr w5:=HB4.out.trans (hK5.below (B:=wr.heap.size) HB4.out.size (fun b hb=>by simp only [wy] at hb;subst hb;exact h8))
   have HB5:=k8 (HKr.out.trans (hB5.mono HKr.out.size))
   have HS5:=k8 (HSr.out.next hB5)
   clear hK5 hB5 HKp
   cases d with
   | true=>
    rw [if_pos rfl] at he
    subst he
    go_wp2_with fail
    go_roundw
    case rel=>exact ⟨k+1,hlt,by go_num,HB5.out,HS5.out,HAT.out⟩
    case measure=>simp [intOf];omega
   | false=>
    rw [if_neg (by decide)] at he
    subst he
    have HRv:Hid (R=9):=by show _=_;rw [HR.out,checkZ,HAF.out rfl];rfl
    clear HAF HAT HR
    go_wp2
    exact ⟨rfl,HB5.out,by rw [HRv.out];rfl⟩
  ·have hkk:k=p.funcs.length:=by omega
   subst hkk
   rw [ww (by simp)] at hall
   have HR4:Hid (R=if (qf p p.funcs.length).all (fun n=>decide (n≤4000))=false then 4 else 0):=by show _=_;rw [HR.out,checkZ,hall];rfl
   have HCo:=k8 (costs_any HF.out HWt.out _ wr hSr.below hSr.src)
   have HKr:=k8 hKr
   have hTl:=vq p p.funcs.length
   clear hall hKr hSr HR
   generalize qf p p.funcs.length=T at *
   go_wp2_with fail
   refine HCo.out.mono ?_
   rintro e w2 ⟨hB2,ov,rfl,hrow⟩
   have HRow:=k8 (own_row hrow hTl)
   obtain ⟨va,vc,rfl⟩:∃ a c,ov=.slice a p.funcs.length c:=by
    rcases hrow.2 with ⟨rfl,h2⟩|⟨g,cap,cur,rfl,_⟩
    ·rw [h2];exact ⟨none,0,rfl⟩
    ·exact ⟨_,_,rfl⟩
   have HB2:=k8 (HKr.out.trans (hB2.mono HKr.out.size))
   clear hB2 hrow HCo h0 h1 hbl
   go_wp2_with fail
   go_loopw [19] (fun iv wr=>∃ k:Nat,k≤p.funcs.length∧iv=.int .i64 k∧wr=w2∧(T.take k).all (fun n=>decide (n≤4000))=true) (fun iv _=>p.funcs.length - (intOf iv).toNat)
   case atStart=>exact ⟨0,gj _,rfl,rfl,rfl⟩
   case round=>
    obtain ⟨k,hk,rfl,rfl,hall⟩:=hrel
    by_cases hlt:k<p.funcs.length
    ·obtain ⟨rb,rc,he,hcell⟩:=HRow.out k hlt
     simp only [Value.slice.injEq] at he
     obtain ⟨rfl,-,rfl⟩:=he
     have hkT:k<T.length:=by omega
     have hAT:=x9 (fun n:Int=>decide (n≤4000)) T k hkT
     have hAF:=ym (fun n:Int=>decide (n≤4000)) T k hkT
     rw [hall,Bool.true_and] at hAT
     rw [List.getD_eq_getElem?_getD,List.getElem?_eq_getElem hkT,Option.getD_some] at hcell
     have HAT:=k8 hAT
     have HAF:=k8 hAF
     clear hAT hAF hall
     generalize T[k]=n at *
     by_cases hn:n≤4000
     ·have tn:decide (n≤4000)=true:=by simpa using hn
      have HAT2:Hid ((T.take (k+1)).all (fun n=>decide (n≤4000))=true):=by show _=_;rw [HAT.out];exact tn
      clear HAF HAT hn
      go_wp2_with fail
      refine (zn 4 _).mono ?_
      rintro e' w4 ⟨rfl,rfl⟩
      go_wp2_with fail
      go_roundw
      case rel=>exact ⟨k+1,hlt,by go_num,by first|rfl|trivial,HAT2.out⟩
      case measure=>simp [intOf];omega
     ·have tn:decide (n≤4000)=false:=by simpa using hn
      have HRv:Hid (R=4):=by show _=_;rw [HR4.out,HAF.out tn];rfl
      clear HAF HAT HR4 hn
      go_wp2_with fail
      refine (zd 4 _).mono ?_
      rintro e' w4 ⟨rfl,rfl⟩
      go_wp2
      exact ⟨rfl,HB2.out,by rw [HRv.out];rfl⟩
    ·have hkk:k=p.funcs.length:=by omega
     subst hkk
     rw [ww (by omega)] at hall
     have HRv:Hid (R=0):=by show _=_;rw [HR4.out,hall];rfl
     clear hall HR4
     go_wp2_with fail
     go_end0
     exact ⟨HB2.out,by rw [HRv.out];rfl⟩
theorem check_any {w0:World} {p:Src} (hWt:wtFs p.funcs≤100000) (v:Value) (w:World) (hB0:Below w0.heap.size w0 w) (hI:kn w0 p v) (hg:Glob w) :
  Calls Tryz.prog 28 #[v] w (Ret w (.int .i64 (checkS p))):=by
 have hI0:=hI
 obtain ⟨a0,c0,a1,c1,rfl,-,-⟩:=hI
 have hBl:=(wu w.heap.size w).alloc (wo _) (.cells #[.slice a0 p.secrets.length c0,.slice a1 p.funcs.length c1] 25)
 have hS:SrcBox w0 p w.heap.size a0 c0 a1 c1 (w.alloc (.cells #[.slice a0 p.secrets.length c0,.slice a1 p.funcs.length c1] 25)):=⟨by simp,by simp,hI0,hB0.trans (hBl.mono hB0.size),hg.below hBl⟩
 have hmf:∀ (fn:Fn) (first cap:Array Value) (w:World),(Instr.makeFunc fn first cap).run Tryz.prog w=.ok (.func fn first cap) w:=fun _ _ _ _=>rfl
 have HRt:=k8 (right_any hWt _ _ hS.below hI0 hS.glob)
 have HB:=k8 hBl
 have HS:=k8 hS
 have hcs:=checkS_eq p
 have hfine:=fun h=>srcFine_of (p:=p) h
 have HFine:=k8 hfine
 have HWt:=k8 hWt
 obtain ⟨R,hR⟩:∃ R,R=checkS p:=⟨_,rfl⟩
 rw [← hR] at hcs ⊢
 obtain ⟨r,hr⟩:∃ r,kr p=r:=⟨_,rfl⟩
 rw [hr] at HRt hcs HFine
 have HCs:=k8 hcs
 clear hS hBl hg hI0 hB0 hWt hcs hfine hR hr
 go_enter Tryz.func28,Tryz.ntmps28
 go_wp2_with fail
 refine HRt.out.mono ?_
 rintro e w1 ⟨rfl,hB1⟩
 have hS1:=HS.out.next hB1
 have HB1:=k8 (HB.out.trans (hB1.mono HB.out.size))
 by_cases hr0:r=0
 ·subst hr0
  have hC:=scaught_any 41 (fun _ _=>by kernel_rfl) (.pointer (some ⟨w.heap.size,0,none⟩)) (checkZ p) w1 (k8 fun w2 hb=>check1_any (HFine.out rfl) HWt.out (hS1.next hb))
  have HC:=k8 hC
  have HRv:Hid (R=checkZ p):=by show _=_;rw [HCs.out,if_neg (by simp)]
  clear hB1 hC HCs hS1 HRt
  generalize checkZ p=z at *
  go_wp2_with fail
  refine HC.out.mono ?_
  rintro e w2 ⟨rfl,hB2⟩
  have HB2:=k8 (HB1.out.trans (hB2.mono HB1.out.size))
  clear hB2
  go_wp2
  go_ret
  exact ⟨by rw [HRv.out];rfl,HB2.out⟩
 ·have t0:(r != 0)=true:=by simpa using hr0
  have HRv:Hid (R=r):=by show _=_;rw [HCs.out,if_pos hr0]
  clear hB1 hS1 HCs hr0 HRt
  go_wp2_with fail
  go_ret
  exact ⟨by rw [HRv.out];rfl,HB1.out⟩
end
section
open Go.RowKit
def StepJ (P:Program) (ops fo:Array Oper) (Q:Exit→Act→World→Prop) (T:World→World→Prop) (w₀:World) (a₀:Act) (Post:Nat→Value→World→Prop) (J:Bool→World→Prop) (c i:Nat) (o:Oper):Prop:=
 ∀ (a:Act) (w:World) (b:Bool),J b w→(i=c→b=false)→T w₀ w→Frm fo a₀ a→(∀ (j:Nat) (x:Oper),ops[j]?=some x→(∃ e∈o.after,e.on=j∧Region.binds .any e=true)→Post j (left a x) w) →
  if Region.wanted o (yielded ops a.tmps) then o.wp P a w (fun a' w'=>∃ v,a'=a.put o.dst v∧T w w'∧Post i (if o.dst=none then undef else v) w'∧J (b || i == c) w') Q else Post i undef w∧J (b || i == c) w
theorem wp_region_phase {P:Program} {ops:Array Oper} {Q:Exit→Act→World→Prop} {id:Nat} {a₀:Act} {w:World} (hm:P.follows .mixedOrders=true) (T:World→World→Prop) (hrefl:∀ x,T x x) (htrans:∀ x y z,T x y→T y z→T x z) (hdrew:T w w.drew)
  (Post:Nat→Value→World→Prop) (hmono:∀ i v x y,Post i v x→T x y→Post i v y)
  (J:Bool→World→Prop) (c:Nat) (hJ:J false w.drew)
  (fit:qz ops a₀.tmps.size=true) (m:Nat) (hms:m<ops.size) (hneeds:vp ops m=true)
  (step:∀ (i:Nat) (o:Oper),i<m→ops[i]?=some o→StepJ P ops (ops.toList.take m).toArray Q T w a₀ Post J c i o)
  (tail:∀ (a:Act) (w':World),T w w'→Frm (ops.toList.take m).toArray a₀ a→(∀ (i:Nat) (x:Oper),i<m→ops[i]?=some x→Post i (left a x) w')→J (decide (c<m)) w'→wpList P ops Q (ops.toList.drop m) a w') :
  (Code.region id ops true).wp P Q a₀ w:=by
 have F:=fit_of fit
 have hfo:∀ (i:Nat) (x:Oper),i<m→ops[i]?=some x→(ops.toList.take m).toArray[i]?=some x:=by
  intro i x hne hi
  have:=(wl.1 hi).1
  rw [List.getElem?_toArray,List.getElem?_take,if_pos (by omega)]
  simpa using hi
 refine wp_region_any hm ?_
 have key:∀ (fuel:Nat) (listed:Array Bool) (a:Act) (x:World),listed.size=ops.size→listed.toList.count false≤fuel→ops.size - m≤fuel→T w x→J (listed.getD c false) x→Frm (ops.toList.take m).toArray a₀ a→(∀ i,m≤i→i<ops.size→listed[i]?=some false) →
   (∀ (i:Nat) (o:Oper),ops[i]?=some o→listed[i]?=some true→∀ e∈o.after,Region.binds .any e=true→listed[e.on]?=some true) →
   (∀ (i:Nat) (o:Oper),ops[i]?=some o→listed[i]?=some true→Post i (left a o) x)→wpAny P .any ops Q fuel listed a x:=by
  intro fuel
  induction fuel with
  | zero=>intro listed a x hsz hc hfu;omega
  | succ fuel ih=>
   intro listed a x hsz hc hfu hT hJx hF hmf hcl hP
   by_cases hall:∀ i,i<m→listed[i]?=some true
   ·exact wpAny_rest F.on m hneeds (fuel+1) m listed a x (wo _) (by omega) (by omega) hsz hall hmf (tail a x hT hF (fun i y hi hy=>hP i y hy (hall i hi)) (by
     have hcl:listed.getD c false=decide (c<m):=by
      rw [wn]
      by_cases hcm:c<m
      ·rw [hall c hcm];simp [hcm]
      ·by_cases hcs:c<ops.size
       ·rw [hmf c (by omega) hcs];simp [hcm]
       ·rw [Array.getElem?_eq_none (by omega)];simp [hcm]
     rw [← hcl]
     exact hJx))
   have hready:∀ i,i<ops.size→listed[i]?=some false→(∀ j,j<i→listed[j]?=some true)→i∈Region.ready .any ops listed:=by
    intro i hi hf hall
    simp only [Region.ready,List.mem_filter,List.mem_range]
    refine ⟨hi,?_⟩
    obtain ⟨o,ho⟩:∃ o,ops[i]?=some o:=⟨_,wm hi⟩
    simp only [wn,hf,ho,Option.map_some,Option.getD_some,Bool.not_false,Bool.true_and]
    rw [Array.all_eq_true_iff_forall_mem]
    intro e he
    cases hbd:Region.binds .any e with
    | false=>rfl
    | true=>
     have:=hall e.on (F.on i o e ho he hbd)
     simp [this]
   refine ⟨fun hr=>?_,fun i hi=>?_⟩
   ·exfalso
    refine hall fun i=>?_
    induction i using Nat.strongRecOn with
    | _ i ihi=>
     intro hi
     have hlt:i<listed.size:=by omega
     cases hb:listed[i] with
     | true=>rw [wm hlt,hb]
     | false=>
      have:=hready i (by omega) (by rw [wm hlt,hb]) (fun j hj=>ihi j hj (by omega))
      rw [hr] at this;cases this
   ·simp only [Region.ready,List.mem_filter,List.mem_range] at hi
    obtain ⟨hilt,hi2⟩:=hi
    obtain ⟨o,ho⟩:∃ o,ops[i]?=some o:=⟨_,wm hilt⟩
    have hil:i<listed.size:=by omega
    simp only [wn,wm hil,ho,Option.map_some,Option.getD_some,Bool.and_eq_true,Bool.not_eq_true',Array.all_eq_true_iff_forall_mem] at hi2
    obtain ⟨hib,hia⟩:=hi2
    have hdep:∀ e∈o.after,Region.binds .any e=true→listed[e.on]?=some true:=by
     intro e he hbd
     have h5:=hia e he
     have hlt:e.on<listed.size:=by have:=F.on i o e ho he hbd;omega
     rw [wm hlt] at h5 ⊢
     simpa [hbd] using h5
    have him:i<m:=by
     rcases Nat.lt_or_ge i m with h|h
     ·exact h
     ·exfalso
      refine hall fun k hk=>?_
      have hcl':∀ (k:Nat) (y:Oper),ops[k]?=some y→(k=i∨listed[k]?=some true)→∀ e∈y.after,Region.binds .any e=true→listed[e.on]?=some true:=by
       intro k y hk hor
       rcases hor with rfl|hor
       ·obtain rfl:y=o:=by rw [ho] at hk;exact (Option.some.inj hk).symm
        exact hdep
       ·exact hcl k y hk hor
      have hmem:=y6 hcl' 12 [i] (fun k hk=>.inl (wy.1 hk))
      simp only [vp,List.all_eq_true,List.mem_range,Bool.or_eq_true,decide_eq_true_eq,List.contains_iff_mem] at hneeds
      have h6:=((hneeds i hilt).resolve_left (by omega)) k (by omega)
      exact (hmem k h6).resolve_left (by omega)
    have hst:=step i o him ho a x (listed.getD c false) hJx (fun e=>by subst e;rw [wn,wm hil,hib];rfl) hT hF (fun j y hj he=>hP j y hj (by
     obtain ⟨e,he1,he2,he3⟩:=he
     subst he2
     exact hdep e he1 he3))
    have hcount:(listed.setIfInBounds i true).toList.count false≤fuel:=by
     have:=count_set listed.toList i (by simp [hil,hib])
     simp only [Array.toList_setIfInBounds]
     omega
    have hfu2:ops.size - m≤fuel:=by
     have h1:(listed.setIfInBounds i true).toList.drop m=List.replicate (ops.size - m) false:=by
      apply List.ext_getElem?
      intro k
      rw [List.getElem?_drop,List.getElem?_replicate]
      by_cases hk:k<ops.size - m
      ·rw [if_pos hk]
       have:=hmf (m+k) (by omega) (by omega)
       rw [Array.getElem?_toList,Array.getElem?_setIfInBounds_ne (by omega)]
       exact this
      ·rw [if_neg hk]
       apply List.getElem?_eq_none
       simp [hsz];omega
     have h2:=List.take_append_drop m (listed.setIfInBounds i true).toList
     have h3:((listed.setIfInBounds i true).toList.take m++(listed.setIfInBounds i true).toList.drop m).count false=(listed.setIfInBounds i true).toList.count false:=by rw [h2]
     rw [List.count_append,h1,List.count_replicate] at h3
     simp at h3
     simp only [Array.toList_setIfInBounds] at hcount
     omega
    have hnew:∀ (v:Value) (x':World),T x x'→Post i (if o.dst=none then undef else v) x'→J (listed.getD c false || i == c) x'→wpAny P .any ops Q fuel (listed.setIfInBounds i true) (a.put o.dst v) x':=by
     intro v x' hT' hp hJ'
     refine ih _ _ _ (by simp [hsz]) hcount hfu2 (htrans _ _ _ hT hT') (by
      have hs:(listed.setIfInBounds i true).getD c false=(listed.getD c false || i == c):=by
       rw [wn,wn]
       by_cases hic:i=c
       ·subst hic;simp [hil]
       ·rw [Array.getElem?_setIfInBounds_ne hic];simp [hic]
      rw [hs]
      exact hJ') (hF.put (i:=i) (hfo i o him ho) v) ?_ ?_ ?_
     ·intro k hk hk2
      rw [Array.getElem?_setIfInBounds_ne (by omega)];exact hmf k hk hk2
     ·intro j y hj hlj e he hbd
      have hset:∀ k:Nat,listed[k]?=some true→(listed.setIfInBounds i true)[k]?=some true:=by
       intro k hk
       by_cases hki:k=i
       ·subst hki;simp [hil]
       ·rw [Array.getElem?_setIfInBounds_ne (Ne.symm hki)];exact hk
      by_cases hji:j=i
      ·subst hji
       obtain rfl:y=o:=by rw [ho] at hj;exact (Option.some.inj hj).symm
       exact hset _ (hdep e he hbd)
      ·rw [Array.getElem?_setIfInBounds_ne (Ne.symm hji)] at hlj
       exact hset _ (hcl j y hj hlj e he hbd)
     ·intro j y hj hlj
      by_cases hji:j=i
      ·subst hji
       obtain rfl:y=o:=by rw [ho] at hj;exact (Option.some.inj hj).symm
       cases hd:y.dst with
       | none=>simpa [left,hd] using hp
       | some d=>
        have hlt:=F.lt j y d hj hd
        simp only [left,hd]
        rw [qp _ _ _ (by rw [hF.size];exact hlt)]
        simpa [hd] using hp
      ·rw [Array.getElem?_setIfInBounds_ne (Ne.symm hji)] at hlj
       have hold:=hmono _ _ _ _ (hP j y hj hlj) hT'
       have he:left (a.put o.dst v) y=left a y:=by
        unfold left
        cases hd:y.dst with
        | none=>rfl
        | some d=>
         cases hd':o.dst with
         | none=>rfl
         | some d'=>
          simp only
          exact vn _ _ _ _ (fun e=>hji (F.own j i y o d hj ho hd (e ▸ hd')))
       rwa [he]
    simp only [wpOp,ho]
    split
    ·rename_i hw
     simp only [hw,if_true] at hst
     refine .inl (Oper.wp_mono ?_ hst)
     rintro a' x' ⟨v,rfl,hT',hp,hJ'⟩
     exact hnew v x' hT' hp hJ'
    ·rename_i hw
     simp only [hw] at hst
     exact hnew undef x (hrefl x) (by split<;>exact hst.1) hst.2
 refine key _ _ _ _ (by simp) ?_ ?_ hdrew (by
  have:(Array.replicate ops.size false).getD c false=false:=by
   rw [wn,Array.getElem?_replicate]
   split<;>rfl
  rw [this]
  exact hJ) ⟨rfl,rfl,fun _ _=>rfl⟩ ?_ ?_ ?_
 ·simp
 ·omega
 ·intro i hi hi2
  rw [Array.getElem?_replicate,if_pos hi2]
 ·intro i o _ h
  rw [Array.getElem?_replicate] at h
  split at h<;>simp at h
 ·intro i o _ h
  rw [Array.getElem?_replicate] at h
  split at h<;>simp at h
def StepC {T:WR} (P:Program) (ops fo:Array Oper) (Q:Exit→Act→World→Prop) (L:List (MT T)) (w₀:World) (a₀:Act) (J:Bool→World→Prop) (c i:Nat) (o:Oper):Prop:=
 ∀ (a:Act) (w:World) (b:Bool),J b w→(i=c→b=false)→T.r w₀ w→Frm fo a₀ a→DepsT L ops a w o.after.toList →
  if Region.wanted o (yielded ops a.tmps) then o.wp P a w (fun a' w'=>∃ v,a'=a.put o.dst v∧T.r w w'∧postT L i (if o.dst=none then undef else v) w'∧J (b || i == c) w') Q else postT L i undef w∧J (b || i == c) w
section
variable {T:WR} {P:Program} {ops fo:Array Oper} {Q:Exit→Act→World→Prop} {L:List (MT T)} {w₀:World} {a₀:Act} {J:Bool→World→Prop} {c i:Nat} {o:Oper}
theorem jz {u:Value} (hic:(i == c)=false) (hgd:o.guard=none) (hd:o.dst.isSome=true) (hL:L.getD i MT.any=MT.is u)
  (h:∀ (a:Act) (w:World),T.r w₀ w→Frm fo a₀ a→DepsT L ops a w o.after.toList→(execOp a.eval o).run P w=.ok (.value u) w):StepC P ops fo Q L w₀ a₀ J c i o:=by
 intro a w b hJ _ hB hF hD
 rw [if_pos (by simp [Region.wanted,hgd])]
 unfold Oper.wp
 rw [h a w hB hF hD]
 refine ⟨u,rfl,T.refl _,?_,by rw [hic,Bool.or_false];exact hJ⟩
 have hne:o.dst≠none:=by intro e;rw [e] at hd;cases hd
 rw [if_neg hne]
 unfold postT
 rw [hL]
 rfl
theorem stepC_call {f:FuncId} (hic:(i == c)=false) (hgd:o.guard=none) (hd:o.dst.isSome=true)
  (h:∀ (a:Act) (w:World) (b:Bool),J b w→T.r w₀ w→Frm fo a₀ a→DepsT L ops a w o.after.toList→∃ args,(execOp a.eval o).run P w=.ok (.enter f args) w ∧
   Calls P f args w (fun e w'=>T.r w w'∧J b w'∧∃ v,e=.returned v∧postT L i v w')):StepC P ops fo Q L w₀ a₀ J c i o:=by
 intro a w b hJ _ hB hF hD
 rw [if_pos (by simp [Region.wanted,hgd])]
 obtain ⟨args,hr,hc⟩:=h a w b hJ hB hF hD
 unfold Oper.wp
 rw [hr]
 refine hc.mono ?_
 rintro e w' ⟨hb,hj,v,rfl,hp⟩
 have hne:o.dst≠none:=by intro e;rw [e] at hd;cases hd
 exact ⟨v,rfl,hb,by rw [if_neg hne];exact hp,by rw [hic,Bool.or_false];exact hj⟩
theorem stepC_turn {f:FuncId} (hic:i=c) (hgd:o.guard=none) (hd:o.dst.isSome=true)
  (h:∀ (a:Act) (w:World),J false w→T.r w₀ w→Frm fo a₀ a→DepsT L ops a w o.after.toList→∃ args,(execOp a.eval o).run P w=.ok (.enter f args) w ∧
   Calls P f args w (fun e w'=>T.r w w'∧J true w'∧∃ v,e=.returned v∧postT L i v w')):StepC P ops fo Q L w₀ a₀ J c i o:=by
 intro a w b hJ hb0 hB hF hD
 rw [if_pos (by simp [Region.wanted,hgd])]
 have hbf:=hb0 hic
 subst hbf
 obtain ⟨args,hr,hc⟩:=h a w hJ hB hF hD
 unfold Oper.wp
 rw [hr]
 refine hc.mono ?_
 rintro e w' ⟨hb,hj,v,rfl,hp⟩
 have hne:o.dst≠none:=by intro e;rw [e] at hd;cases hd
 exact ⟨v,rfl,hb,by rw [if_neg hne];exact hp,by rw [hic];simpa using hj⟩
end
def StepsC {T:WR} (P:Program) (ops fo:Array Oper) (Q:Exit→Act→World→Prop) (L:List (MT T)) (w₀:World) (a₀:Act) (J:Bool→World→Prop) (c:Nat):Nat→List Oper→Prop
 | _,[]=>True
 | i,o::l=>StepC P ops fo Q L w₀ a₀ J c i o∧StepsC P ops fo Q L w₀ a₀ J c (i+1) l
theorem stepsC_at {T:WR} {P:Program} {ops fo:Array Oper} {Q:Exit→Act→World→Prop} {L:List (MT T)} {w₀:World} {a₀:Act} {J:Bool→World→Prop} {c:Nat}:∀ (l:List Oper) (k:Nat),StepsC P ops fo Q L w₀ a₀ J c k l→∀ (i:Nat) (o:Oper),l[i]?=some o→StepC P ops fo Q L w₀ a₀ J c (k+i) o
 | [],_,_,i,o,h=>by simp at h
 | x::l,k,hs,i,o,h=>by
  cases i with
  | zero=>simp at h;subst h;exact hs.1
  | succ i=>
   have:=stepsC_at l (k+1) hs.2 i o (by simpa using h)
   rwa [show k+1+i=k+(i+1) by omega] at this
theorem yg {P:Program} {ops:Array Oper} {Q:Exit→Act→World→Prop} {id:Nat} {a₀:Act} {w:World} (hm:P.follows .mixedOrders=true) (T:WR) (L:List (MT T)) (J:Bool→World→Prop) (c:Nat) (hJ:J false w.drew) (fit:qz ops a₀.tmps.size=true)
  (m:Nat) (hms:m<ops.size) (hcm:c<m) (hneeds:vp ops m=true) (rest:List Oper) (hrest:ops.toList.drop m=rest)
  (steps:StepsC P ops (ops.toList.take m).toArray Q L w a₀ J c 0 (ops.toList.take m))
  (tail:∀ (a:Act) (w':World),T.r w w'→Frm (ops.toList.take m).toArray a₀ a→FinT L a w' 0 (ops.toList.take m)→J true w'→wpList P ops Q rest a w'):(Code.region id ops true).wp P Q a₀ w:=by
 have F:=fit_of fit
 have htake:∀ (i:Nat) (x:Oper),i<m→ops[i]?=some x→(ops.toList.take m)[i]?=some x:=by
  intro i x hne hi
  rw [List.getElem?_take,if_pos hne]
  simpa using hi
 refine wp_region_phase hm T.r T.refl T.trans (T.drew w) (postT L) (fun i v x y h k=>(L.getD i MT.any).mono v x y h k) J c hJ fit m hms hneeds ?_ ?_
 ·intro i x hne hx a y b hj hb0 hT hF hD
  have h:=stepsC_at (ops.toList.take m) 0 steps i x (htake i x hne hx)
  rw [Nat.zero_add] at h
  exact h a y b hj hb0 hT hF (depsT_of _ (fun j z hj ⟨e,he,h1,h2⟩=>hD j z hj ⟨e,by simpa using he,h1,h2⟩) (fun e he hb=>by
   have h1:=F.on i x e hx (by simpa using he) hb
   have h2:=(wl.1 hx).1
   omega))
 ·intro a w' hT hF hP hj
  rw [decide_eq_true hcm] at hj
  rw [hrest]
  refine tail a w' hT hF (finT_of _ 0 (fun i y hy=>?_)) hj
  rw [Nat.zero_add]
  have hi:i<m:=by
   have:=(List.getElem?_eq_some_iff.1 hy).1
   rw [List.length_take] at this
   omega
  rw [List.getElem?_take,if_pos hi] at hy
  exact hP i y hi (by simpa using hy)
end
section
open Go.RowKit
def isU (o:Option Obj):Prop:=∃ cs fr,o=some (.cells cs 35 fr)
structure RK (bk:List Nat) (wb ob:Nat) (M:List Nat) (x y:World):Prop where
 os:y.os=x.os
 tape:y.tape=x.tape
 output:y.output=x.output
 size:x.heap.size≤y.heap.size
 block:∀ k,k<x.heap.size→k ∉ bk→k≠wb→k ∉ M→(k<ob∨¬ isU x.heap[k]?)→y.heap[k]?=x.heap[k]?
theorem RK.refl (bk:List Nat) (wb ob:Nat) (M:List Nat) (x:World):RK bk wb ob M x x:=⟨rfl,rfl,rfl,wo _,fun _ _ _ _ _ _=>rfl⟩
theorem RK.next {bk:List Nat} {wb ob:Nat} {M M2:List Nat} {x y z:World} (h:RK bk wb ob M x y) (k:RK bk wb ob M2 y z) (hM:∀ i∈M2,i∈M∨x.heap.size≤i):RK bk wb ob M x z:=
 ⟨k.os.trans h.os,k.tape.trans h.tape,k.output.trans h.output,wx h.size k.size,fun i hi h1 h2 h3 h4=>by
  have e:=h.block i hi h1 h2 h3 h4
  refine (k.block i (Nat.lt_of_lt_of_le hi h.size) h1 h2 (fun hm=>?_) (by rw [e];exact h4)).trans e
  rcases hM i hm with h5|h5
  ·exact h3 h5
  ·omega⟩
theorem RK.trans {bk:List Nat} {wb ob:Nat} {M:List Nat} {x y z:World} (h:RK bk wb ob M x y) (k:RK bk wb ob M y z):RK bk wb ob M x z:=h.next k fun _ hi=>.inl hi
theorem RK.mono {bk:List Nat} {wb ob:Nat} {M M':List Nat} {x y:World} (h:RK bk wb ob M x y) (hM:∀ i∈M,i∈M'):RK bk wb ob M' x y:=⟨h.os,h.tape,h.output,h.size,fun k hk h1 h2 h3 h4=>h.block k hk h1 h2 (fun hm=>h3 (hM k hm)) h4⟩
theorem j8 {bk:List Nat} {wb ob:Nat} {M:List Nat} {x y:World} (h:Below x.heap.size x y):RK bk wb ob M x y:=⟨h.os,h.tape,h.output,h.size,fun k hk _ _ _ _=>h.block k hk⟩
theorem rk_grown {bk:List Nat} {wb ob:Nat} {M:List Nat} {x y:World} {b:Nat} (h:x.grownBy y (some b)) (hb:b∈M∨b∈bk∨b=wb):RK bk wb ob M x y:=
 ⟨h.os,h.tape,h.output,h.size,fun k hk h1 h2 h3 _=>h.block k hk (fun e=>by
  simp only [Option.some.injEq] at e
  subst e
  rcases hb with h5|h5|h5
  ·exact h3 h5
  ·exact h1 h5
  ·exact h2 h5)⟩
theorem RK.below {bk:List Nat} {wb ob:Nat} {M:List Nat} {x y:World} {B:Nat} (h:RK bk wb ob M x y) (hB:B≤x.heap.size) (h1:∀ b∈bk,B≤b) (h2:B≤wb) (h3:B≤ob) (h4:∀ b∈M,B≤b):Below B x y:=
 ⟨h.os,h.tape,h.output,h.size,fun k hk=>h.block k (by omega) (fun hm=>by have:=h1 k hm;omega) (by omega) (fun hm=>by have:=h4 k hm;omega) (.inl (by omega))⟩
theorem RK.drew {bk:List Nat} {wb ob:Nat} {M:List Nat} (x:World):RK bk wb ob M x x.drew:=⟨rfl,rfl,rfl,wo _,fun _ _ _ _ _ _=>rfl⟩
theorem RK.setCell {bk:List Nat} {wb ob:Nat} {M:List Nat} {x y:World} (h:RK bk wb ob M x y) {p:Addr} (hp:p.block∈M∨p.block∈bk∨p.block=wb∨x.heap.size≤p.block) (u:Value):RK bk wb ob M x (y.setCell p u):=by
 refine ⟨h.os,h.tape,h.output,by simpa [World.setCell] using h.size,fun k hk h1 h2 h3 h4=>(Below.heap_setCell _ _ _ _ (fun e=>?_)).trans (h.block k hk h1 h2 h3 h4)⟩
 rcases hp with h5|h5|h5|h5
 ·exact h3 (e ▸ h5)
 ·exact h1 (e ▸ h5)
 ·exact h2 (e.trans h5)
 ·omega
def rkR (bk:List Nat) (wb ob:Nat) (M:List Nat):WR:=⟨RK bk wb ob M,RK.refl bk wb ob M,fun _ _ _ h k=>h.trans k,RK.drew⟩
structure Calm (bk:List Nat) (wb:Nat) (w:World) (b:Nat):Prop where
 lt:b<w.heap.size
 nb:b ∉ bk
 nw:b≠wb
 nu:¬ isU w.heap[b]?
theorem Calm.block {bk:List Nat} {wb ob:Nat} {M:List Nat} {w w':World} {b:Nat} (h:Calm bk wb w b) (k:RK bk wb ob M w w') (hM:b ∉ M):w'.heap[b]?=w.heap[b]?:=k.block b h.lt h.nb h.nw hM (.inr h.nu)
theorem Calm.next {bk:List Nat} {wb ob:Nat} {M:List Nat} {w w':World} {b:Nat} (h:Calm bk wb w b) (k:RK bk wb ob M w w') (hM:b ∉ M):Calm bk wb w' b:=⟨Nat.lt_of_lt_of_le h.lt k.size,h.nb,h.nw,by rw [h.block k hM];exact h.nu⟩
theorem Calm.cell {bk:List Nat} {wb ob:Nat} {M:List Nat} {w w':World} {b o:Nat} {v:Value} (h:Calm bk wb w b) (k:RK bk wb ob M w w') (hM:b ∉ M) (hc:w.cell? ⟨b,o,none⟩=some v):w'.cell? ⟨b,o,none⟩=some v:=(World.cell?_of_block (w:=w) (a:=⟨b,o,none⟩) (h.block k hM)).trans hc
theorem calm_map {bk:List Nat} {wb:Nat} {w:World} {b:Nat} {es:Array MapEntry} {c:Nat} (h:w.heap[b]?=some (.map es c)) (h1:b ∉ bk) (h2:b≠wb):Calm bk wb w b:=⟨(wl.1 h).1,h1,h2,fun ⟨cs,fr,e⟩=>by rw [h] at e;simp at e⟩
theorem calm_cells {bk:List Nat} {wb:Nat} {w:World} {b:Nat} {cs:Array Value} {t:TypeId} {fr:Nat×Nat} (h:w.heap[b]?=some (.cells cs t fr)) (ht:t≠35) (h1:b ∉ bk) (h2:b≠wb):Calm bk wb w b:=⟨(wl.1 h).1,h1,h2,fun ⟨cs',fr',e⟩=>by rw [h] at e;simp at e;exact ht e.2.1⟩
theorem calm_new {bk:List Nat} {wb:Nat} {w:World} {cs:Array Value} {t:TypeId} (ht:t≠35) (h1:∀ b∈bk,b<w.heap.size) (h2:wb<w.heap.size):Calm bk wb (w.alloc (.cells cs t)) w.heap.size:=
 calm_cells (heap_alloc_new w (.cells cs t)) ht (fun hm=>by have:=h1 _ hm;omega) (by omega)
def absV (bk:List Nat):Value→Option Ref
 | .slice (some ⟨b,o,none⟩) n c=>if b∈bk∧n≤c then some ⟨bk.idxOf b,o,n⟩ else none
 | _=>none
theorem absV_some {bk:List Nat} {v:Value} {r:Ref} (h:absV bk v=some r):∃ b c,v=.slice (some ⟨b,r.off,none⟩) r.len c∧bk[r.row]?=some b∧r.len≤c:=by
 unfold absV at h
 split at h
 ·rename_i b o n c
  split at h
  ·rename_i hb
   cases h
   refine ⟨b,c,rfl,?_,hb.2⟩
   rw [List.getElem?_eq_getElem (List.idxOf_lt_length_of_mem hb.1)]
   simp
  ·cases h
 ·cases h
theorem absV_mk {bk:List Nat} (hn:bk.Nodup) {r:Ref} {b c:Nat} (hb:bk[r.row]?=some b) (hc:r.len≤c):absV bk (.slice (some ⟨b,r.off,none⟩) r.len c)=some r:=by
 have hm:=gg hb
 obtain ⟨hl,he⟩:=List.getElem?_eq_some_iff.1 hb
 have hi:bk.idxOf b=r.row:=by
  rw [← he]
  exact List.Nodup.idxOf_getElem hn r.row hl
 unfold absV
 simp only
 rw [if_pos ⟨hm,hc⟩,hi]
def RefsAt (bk:List Nat) (w:World) (b:Nat) (l:Refs):Prop:=∃ lv:List (ByteArray×Value),j5 Value.string w b lv∧lv.map (fun x=>(x.1,absV bk x.2))=l.map fun x=>(x.1,some x.2)
theorem RefsAt.get {bk:List Nat} {w:World} {b:Nat} {l:Refs} {lv:List (ByteArray×Value)} (h:lv.map (fun x=>(x.1,absV bk x.2))=l.map fun x=>(x.1,some x.2)) (s:ByteArray) :
  (aget l s=none→aget lv s=none)∧∀ r,aget l s=some r→∃ v,aget lv s=some v∧absV bk v=some r:=by
 have e:=congrArg (fun q=>aget q s) h
 simp only [ka] at e
 constructor
 ·intro hn
  rw [hn] at e
  simpa using e
 ·intro r hr
  rw [hr] at e
  cases hv:aget lv s with
  | none=>rw [hv] at e;simp at e
  | some v=>rw [hv] at e;exact ⟨v,rfl,by simpa using e⟩
theorem RefsAt.put {bk:List Nat} {l:Refs} {lv:List (ByteArray×Value)} (h:lv.map (fun x=>(x.1,absV bk x.2))=l.map fun x=>(x.1,some x.2)) (s:ByteArray) {v:Value} {r:Ref} (hv:absV bk v=some r) :
  (aput lv s v).map (fun x=>(x.1,absV bk x.2))=(aput l s r).map fun x=>(x.1,some x.2):=by
 rw [← kz,← kz,h,hv]
def RowAt (w:World) (b:Nat) (l:List Int):Prop:=∀ (j:Nat) (x:Int),l[j]?=some x→w.cell? ⟨b,j,none⟩=some (.int .u64 x)∧w.frozen? ⟨b,j,none⟩=false
structure RunFix (w0:World) (p:Src) (bk:List Nat) (wb ob sb:Nat) (secs:Refs) (shp:List Nat):Prop where
 nd:bk.Nodup
 lo:∀ b∈bk,w0.heap.size≤b∧b<ob
 wlo:w0.heap.size≤wb∧wb<ob∧wb ∉ bk
 slo:sb ∉ bk∧sb≠wb∧sb<ob
 len:bk.length=shp.length
 small:∀ n∈shp,n≤100000
 ok:∀ x∈secs,∃ n,shp[x.2.row]?=some n∧x.2.off+x.2.len≤n∧1≤x.2.len
 all:∀ s,zf (jt p) s=true→(aget secs s).isSome=true
structure vh (w0:World) (p:Src) (bk:List Nat) (wb ob sb:Nat) (sv:Value) (secs:Refs) (shp:List Nat) (st:St) (w:World):Prop where
 cells:∃ a0 c0 a1 c1,w.cell? ⟨wb,0,none⟩=some (.slice a0 p.secrets.length c0)∧w.cell? ⟨wb,1,none⟩=some (.slice a1 p.funcs.length c1)∧kn w0 p (.agg #[.slice a0 p.secrets.length c0,.slice a1 p.funcs.length c1])
 sec:w.cell? ⟨wb,2,none⟩=some (.map (some sb))
 shared:w.cell? ⟨wb,3,none⟩=some sv
 opened:∃ ov,w.cell? ⟨wb,4,none⟩=some ov∧w.frozen? ⟨wb,4,none⟩=false∧w.ownsRow ob 35 1 ov st.opened.length (st.opened.map (Value.int .u64))
 secs:RefsAt bk w sb secs
 rows:∀ (r:Nat) (l:List Int) (b:Nat),st.mem[r]?=some l→bk[r]?=some b→RowAt w b l
 nums:∀ l∈st.mem,∀ x∈l,U64 x
 shape:st.mem.map (·.length)=shp
 big:ob≤w.heap.size
structure zx (bk:List Nat) (wb ob:Nat) (i:Nat) (fb vm pm:Nat) (vars:Vars) (ptrs:Refs) (w:World):Prop where
 cells:w.cell? ⟨fb,0,none⟩=some (.pointer (some ⟨wb,0,none⟩))∧w.cell? ⟨fb,1,none⟩=some (.int .i64 i)∧w.cell? ⟨fb,2,none⟩=some (.map (some vm))∧w.cell? ⟨fb,3,none⟩=some (.map (some pm))
 fcalm:Calm bk wb w fb
 vcalm:Calm bk wb w vm
 pcalm:Calm bk wb w pm
 ne:vm≠pm∧vm≠fb∧pm≠fb
 lo:ob≤fb∧ob≤vm∧ob≤pm
 nums:∀ x∈vars,U64 x.2
 vmap:j5 Value.string w vm (vars.map fun x=>(x.1,Value.int .u64 x.2))
 pmap:RefsAt bk w pm ptrs
theorem zx.next {bk:List Nat} {wb ob i fb vm pm:Nat} {M:List Nat} {vars:Vars} {ptrs:Refs} {w w':World} (h:zx bk wb ob i fb vm pm vars ptrs w) (k:RK bk wb ob M w w') (h1:fb ∉ M) (h2:vm ∉ M) (h3:pm ∉ M):zx bk wb ob i fb vm pm vars ptrs w':=by
 obtain ⟨lv,hl,he⟩:=h.pmap
 exact ⟨⟨h.fcalm.cell k h1 h.cells.1,h.fcalm.cell k h1 h.cells.2.1,h.fcalm.cell k h1 h.cells.2.2.1,h.fcalm.cell k h1 h.cells.2.2.2⟩,h.fcalm.next k h1,h.vcalm.next k h2,h.pcalm.next k h3,h.ne,h.lo,h.nums,h.vmap.block (h.vcalm.block k h2),⟨lv,hl.block (h.pcalm.block k h3),he⟩⟩
theorem vh.next {w0:World} {p:Src} {bk:List Nat} {wb ob sb:Nat} {sv:Value} {secs:Refs} {shp:List Nat} {st:St} {w w':World} (h:vh w0 p bk wb ob sb sv secs shp st w) (hb:Below w.heap.size w w'):vh w0 p bk wb ob sb sv secs shp st w':=by
 obtain ⟨a0,c0,a1,c1,k0,k1,k2⟩:=h.cells
 obtain ⟨ov,k3,k4,k5⟩:=h.opened
 obtain ⟨lv,hl,he⟩:=h.secs
 have hwb:=k9 w _ k3
 exact ⟨⟨a0,c0,a1,c1,jb hb k0,jb hb k1,k2⟩,jb hb h.sec,jb hb h.shared,⟨ov,jb hb k3,(hb.frozen hwb).trans k4,jv k5 hb⟩,⟨lv,hl.below hb,he⟩,
  fun r l b hr hbk j x hj=>⟨jb hb (h.rows r l b hr hbk j x hj).1,(hb.frozen (k9 w _ (h.rows r l b hr hbk j x hj).1)).trans (h.rows r l b hr hbk j x hj).2⟩,h.nums,h.shape,wx h.big hb.size⟩
theorem vh.other {w0:World} {p:Src} {bk:List Nat} {wb ob sb:Nat} {sv:Value} {secs:Refs} {shp:List Nat} {st:St} {w w':World} {m:Nat} (hf:RunFix w0 p bk wb ob sb secs shp) (h:vh w0 p bk wb ob sb sv secs shp st w) (hm:Calm bk wb w m) (hlo:ob≤m) (hg:w.grownBy w' (some m)):vh w0 p bk wb ob sb sv secs shp st w':=by
 obtain ⟨a0,c0,a1,c1,k0,k1,k2⟩:=h.cells
 obtain ⟨ov,k3,k4,k5⟩:=h.opened
 obtain ⟨lv,hl,he⟩:=h.secs
 have hwb:=k9 w _ k3
 have hne:∀ b,b≠m→b<w.heap.size→w'.heap[b]?=w.heap[b]?:=fun b hb hl=>hg.block b hl (fun e=>hb (by simpa using e))
 have hcell:∀ b o v,b≠m→w.cell? ⟨b,o,none⟩=some v→w'.cell? ⟨b,o,none⟩=some v:=fun b o v hb hc=>(World.cell?_of_block (w:=w) (a:=⟨b,o,none⟩) (hne b hb (k9 w _ hc))).trans hc
 have hfro:∀ b o v,b≠m→w.cell? ⟨b,o,none⟩=some v→w'.frozen? ⟨b,o,none⟩=w.frozen? ⟨b,o,none⟩:=fun b o v hb hc=>World.frozen?_of_block (a:=⟨b,o,none⟩) (hne b hb (k9 w _ hc))
 have hw:wb≠m:=fun e=>hm.nw e.symm
 have hgm:∀ g,ov.ownBlock=some g→g≠m:=fun g hgo e=>by
  subst e
  rcases k5.2 with ⟨rfl,_⟩|⟨b,cap,cur,rfl,hb,hc,_⟩
  ·simp [Value.ownBlock] at hgo
  ·have:b=g:=by simpa [Value.ownBlock] using hgo
   subst this
   exact hm.nu ⟨_,_,hc⟩
 refine ⟨⟨a0,c0,a1,c1,hcell _ _ _ hw k0,hcell _ _ _ hw k1,k2⟩,hcell _ _ _ hw h.sec,hcell _ _ _ hw h.shared,⟨ov,hcell _ _ _ hw k3,(hfro _ _ _ hw k3).trans k4,?_⟩,⟨lv,hl.block (hne sb (fun e=>by have:=hf.slo.2.2;omega) hl.lt),he⟩,fun r l b hr hb j x hj=>?_,h.nums,h.shape,wx h.big hg.size⟩
 ·refine k5.kept hg ?_
  cases hv:ov.ownBlock with
  | none=>exact .inl rfl
  | some g=>exact .inr (by have:=hgm g hv;simpa using this)
 ·have hbm:b≠m:=fun e=>hm.nb (e ▸ gg hb)
  obtain ⟨q1,q2⟩:=h.rows r l b hr hb j x hj
  exact ⟨hcell _ _ _ hbm q1,(hfro _ _ _ hbm q1).trans q2⟩
theorem Calm.other {bk:List Nat} {wb:Nat} {w w':World} {b m:Nat} (h:Calm bk wb w b) (hg:w.grownBy w' (some m)) (hne:b≠m):Calm bk wb w' b:=by
 have e:=hg.block b h.lt (fun e=>hne (by simpa using e))
 exact ⟨Nat.lt_of_lt_of_le h.lt hg.size,h.nb,h.nw,by rw [e];exact h.nu⟩
theorem j5.calm {K:Type} {κ:K→Value} {bk:List Nat} {wb:Nat} {w:World} {b:Nat} {l:List (K×Value)} (h:j5 κ w b l) (h1:b ∉ bk) (h2:b≠wb):Calm bk wb w b:=by
 obtain ⟨es,clock,hb,_⟩:=h
 exact calm_map hb h1 h2
theorem zx.putV {bk:List Nat} {wb ob i fb vm pm:Nat} {vars:Vars} {ptrs:Refs} {w w':World} (h:zx bk wb ob i fb vm pm vars ptrs w) {s:ByteArray} {v:Int} (hm:j5 Value.string w' vm (aput (vars.map fun x=>(x.1,Value.int .u64 x.2)) s (.int .u64 v))) (hg:w.grownBy w' (some vm)) (hv:U64 v):zx bk wb ob i fb vm pm (aput vars s v) ptrs w':=by
 obtain ⟨lv,hl,he⟩:=h.pmap
 have hne:=h.ne
 have hcell:∀ o u,w.cell? ⟨fb,o,none⟩=some u→w'.cell? ⟨fb,o,none⟩=some u:=fun o u hc=>(World.cell?_of_block (w:=w) (a:=⟨fb,o,none⟩) (hg.block fb h.fcalm.lt (fun e=>hne.2.1 (by simpa using e.symm)))).trans hc
 refine ⟨⟨hcell _ _ h.cells.1,hcell _ _ h.cells.2.1,hcell _ _ h.cells.2.2.1,hcell _ _ h.cells.2.2.2⟩,h.fcalm.other hg (Ne.symm hne.2.1),hm.calm h.vcalm.nb h.vcalm.nw,h.pcalm.other hg (Ne.symm hne.1),hne,h.lo,?_,by rw [kz] at hm;exact hm,⟨lv,hl.grown hg (by simpa using Ne.symm hne.1),he⟩⟩
 intro x hx
 have key:∀ (l:Vars),(∀ x∈l,U64 x.2)→∀ x∈aput l s v,U64 x.2:=by
  intro l
  induction l with
  | nil=>intro _ x hx;simp only [aput,wy] at hx;subst hx;exact hv
  | cons y l ih=>
   intro hl x hx
   obtain ⟨a,u⟩:=y
   rw [aput] at hx
   split at hx
   ·rcases gh.1 hx with rfl|hx
    ·exact hv
    ·exact hl x (by simp [hx])
   ·rcases gh.1 hx with rfl|hx
    ·exact hl _ (by simp)
    ·exact ih (fun z hz=>hl z (by simp [hz])) x hx
 exact key vars h.nums x hx
theorem zx.putP {bk:List Nat} {wb ob i fb vm pm:Nat} {vars:Vars} {ptrs:Refs} {w w':World} (h:zx bk wb ob i fb vm pm vars ptrs w) {lv:List (ByteArray×Value)} (he:lv.map (fun x=>(x.1,absV bk x.2))=ptrs.map fun x=>(x.1,some x.2)) {s:ByteArray} {v:Value} {r:Ref} (hab:absV bk v=some r) (hm:j5 Value.string w' pm (aput lv s v)) (hg:w.grownBy w' (some pm)):zx bk wb ob i fb vm pm vars (aput ptrs s r) w':=by
 have hne:=h.ne
 have hcell:∀ o u,w.cell? ⟨fb,o,none⟩=some u→w'.cell? ⟨fb,o,none⟩=some u:=fun o u hc=>(World.cell?_of_block (w:=w) (a:=⟨fb,o,none⟩) (hg.block fb h.fcalm.lt (fun e=>hne.2.2 (by simpa using e.symm)))).trans hc
 exact ⟨⟨hcell _ _ h.cells.1,hcell _ _ h.cells.2.1,hcell _ _ h.cells.2.2.1,hcell _ _ h.cells.2.2.2⟩,h.fcalm.other hg (Ne.symm hne.2.2),h.vcalm.other hg hne.1,hm.calm h.pcalm.nb h.pcalm.nw,hne,h.lo,h.nums,h.vmap.grown hg (by simpa using hne.1),⟨_,hm,RefsAt.put he s hab⟩⟩
structure EvFix (p:Src) (i:Nat) (f:Fun) (shp:List Nat) (ptrs:Refs):Prop where
 fn:p.funcs[i]?=some f
 ptr:ptrs.map (fun x=>(x.1,(x.2.len:Int)))=zm f
 ok:∀ x∈ptrs,∃ n,shp[x.2.row]?=some n∧x.2.off+x.2.len≤n∧1≤x.2.len
end
section
open Go.RowKit
def far (b:Int):Nat:=min (bits .and .u64 b 63).toNat 64
def aluF (n a b:Int):Int:=
 if n=0 then IntKind.u64.wrap (a+b) else if n=1 then IntKind.u64.wrap (a - b) else if n=2 then IntKind.u64.wrap (a * 2 ^ far b)
 else if n=3 then (if wrap64 a<wrap64 b then 1 else 0) else if n=4 then (if a<b then 1 else 0) else if n=5 then bits .xor .u64 a b
 else if n=6 then a.fdiv (2 ^ far b) else if n=7 then IntKind.u64.wrap ((wrap64 a).fdiv (2 ^ far b)) else if n=8 then bits .or .u64 a b else if n=9 then bits .and .u64 a b
 else if n=10 then IntKind.u64.wrap (a * b) else if n=13 then (if b=0 then 18446744073709551615 else a / b) else if n=15 then (if b=0 then a else a % b) else 0
theorem and63 (b:Int):0≤bits .and .u64 b 63:=bits_lo_u64 _ _ _
theorem run_shl {P:Program} (a b:Int) (hb:U64 b) (w:World):(Op.shift .shl .u64 a .u64 (bits .and .u64 b 63)).run P w=.ok (.int .u64 (IntKind.u64.wrap (a * 2 ^ far b))) w:=by
 have h:=and63 b
 have hn:¬ bits .and .u64 b 63<0:=by omega
 unfold Op.shift
 rw [if_neg hn]
 rfl
theorem run_shr {P:Program} (k:IntKind) (hk:k.bits=64) (a b:Int) (hb:U64 b) (w:World):(Op.shift .shr k a .u64 (bits .and .u64 b 63)).run P w=.ok (.int k (a.fdiv (2 ^ far b))) w:=by
 have h:=and63 b
 have hn:¬ bits .and .u64 b 63<0:=by omega
 unfold Op.shift
 rw [if_neg hn,hk]
 rfl
theorem one_any (b:Bool) (w:World):Calls Tryz.prog 155 #[.bool b] w fun e w'=>e=.returned (.int .u64 (if b=true then 1 else 0))∧w'=w:=by
 cases b with
 | true=>
  go_enter Tryz.func155,Tryz.ntmps155
  go_wp2
  go_ret
  exact ⟨rfl,rfl⟩
 | false=>
  go_enter Tryz.func155,Tryz.ntmps155
  go_wp2
  go_ret
  exact ⟨rfl,rfl⟩
theorem alu0_any (a b:Int) (ha:U64 a) (hb:U64 b) (w:World):Calls Tryz.prog 151 #[.int .u64 a,.int .u64 b] w fun e w'=>e=.returned (.int .u64 (aluF 0 a b))∧w'=w:=by
 have e:aluF 0 a b=IntKind.u64.wrap (a+b):=by simp [aluF]
 rw [e]
 clear e
 unfold U64 at ha hb
 go_enter Tryz.func151,Tryz.ntmps151
 go_wp2
 go_ret
 exact ⟨rfl,rfl⟩
theorem alu1_any (a b:Int) (ha:U64 a) (hb:U64 b) (w:World):Calls Tryz.prog 152 #[.int .u64 a,.int .u64 b] w fun e w'=>e=.returned (.int .u64 (aluF 1 a b))∧w'=w:=by
 have e:aluF 1 a b=IntKind.u64.wrap (a - b):=by simp [aluF]
 rw [e]
 clear e
 unfold U64 at ha hb
 go_enter Tryz.func152,Tryz.ntmps152
 go_wp2
 go_ret
 exact ⟨rfl,rfl⟩
theorem alu2_any (a b:Int) (ha:U64 a) (hb:U64 b) (w:World):Calls Tryz.prog 153 #[.int .u64 a,.int .u64 b] w fun e w'=>e=.returned (.int .u64 (aluF 2 a b))∧w'=w:=by
 have e:aluF 2 a b=IntKind.u64.wrap (a * 2 ^ far b):=by simp [aluF]
 rw [e]
 clear e
 have hs:=fun w=>run_shl (P:=Tryz.prog) a b hb w
 go_enter Tryz.func153,Tryz.ntmps153
 go_wp2
 go_ret
 exact ⟨rfl,rfl⟩
theorem alu3_any (a b:Int) (ha:U64 a) (hb:U64 b) (w:World):Calls Tryz.prog 154 #[.int .u64 a,.int .u64 b] w fun e w'=>e=.returned (.int .u64 (aluF 3 a b))∧w'=w:=by
 have e:aluF 3 a b=(if wrap64 a<wrap64 b then 1 else 0):=by simp [aluF]
 rw [e]
 clear e
 unfold U64 at ha hb
 obtain ⟨B,hB⟩:∃ B,decide (wrap64 a<wrap64 b)=B:=⟨_,rfl⟩
 have hv:(if wrap64 a<wrap64 b then (1:Int) else 0)=if B=true then 1 else 0:=by rw [← hB];simp
 rw [hv]
 clear hv
 have h1:=fun w=>one_any B w
 obtain ⟨V,hV⟩:∃ V:Int,(if B=true then (1:Int) else 0)=V:=⟨_,rfl⟩
 rw [hV] at h1 ⊢
 have H1:=k8 h1
 clear h1 hV
 go_enter Tryz.func154,Tryz.ntmps154
 go_wp2_with fail
 refine (H1.out _).mono ?_
 rintro e w' ⟨rfl,rfl⟩
 go_wp2
 go_ret
 exact ⟨rfl,rfl⟩
theorem alu4_any (a b:Int) (ha:U64 a) (hb:U64 b) (w:World):Calls Tryz.prog 156 #[.int .u64 a,.int .u64 b] w fun e w'=>e=.returned (.int .u64 (aluF 4 a b))∧w'=w:=by
 have e:aluF 4 a b=(if a<b then 1 else 0):=by simp [aluF]
 rw [e]
 clear e
 unfold U64 at ha hb
 obtain ⟨B,hB⟩:∃ B,decide (a<b)=B:=⟨_,rfl⟩
 have hv:(if a<b then (1:Int) else 0)=if B=true then 1 else 0:=by rw [← hB];simp
 rw [hv]
 clear hv
 have h1:=fun w=>one_any B w
 obtain ⟨V,hV⟩:∃ V:Int,(if B=true then (1:Int) else 0)=V:=⟨_,rfl⟩
 rw [hV] at h1 ⊢
 have H1:=k8 h1
 clear h1 hV
 go_enter Tryz.func156,Tryz.ntmps156
 go_wp2_with fail
 refine (H1.out _).mono ?_
 rintro e w' ⟨rfl,rfl⟩
 go_wp2
 go_ret
 exact ⟨rfl,rfl⟩
theorem alu5_any (a b:Int) (ha:U64 a) (hb:U64 b) (w:World):Calls Tryz.prog 157 #[.int .u64 a,.int .u64 b] w fun e w'=>e=.returned (.int .u64 (aluF 5 a b))∧w'=w:=by
 have e:aluF 5 a b=bits .xor .u64 a b:=by simp [aluF]
 rw [e]
 clear e
 unfold U64 at ha hb
 go_enter Tryz.func157,Tryz.ntmps157
 go_wp2
 go_ret
 exact ⟨rfl,rfl⟩
theorem alu6_any (a b:Int) (ha:U64 a) (hb:U64 b) (w:World):Calls Tryz.prog 158 #[.int .u64 a,.int .u64 b] w fun e w'=>e=.returned (.int .u64 (aluF 6 a b))∧w'=w:=by
 have e:aluF 6 a b=a.fdiv (2 ^ far b):=by simp [aluF]
 rw [e]
 clear e
 have hs:=fun w=>run_shr (P:=Tryz.prog) .u64 rfl a b hb w
 go_enter Tryz.func158,Tryz.ntmps158
 go_wp2
 go_ret
 exact ⟨rfl,rfl⟩
theorem alu7_any (a b:Int) (ha:U64 a) (hb:U64 b) (w:World):Calls Tryz.prog 159 #[.int .u64 a,.int .u64 b] w fun e w'=>e=.returned (.int .u64 (aluF 7 a b))∧w'=w:=by
 have e:aluF 7 a b=IntKind.u64.wrap ((wrap64 a).fdiv (2 ^ far b)):=by simp [aluF]
 rw [e]
 clear e
 have hs:=fun w=>run_shr (P:=Tryz.prog) .i64 rfl (wrap64 a) b hb w
 go_enter Tryz.func159,Tryz.ntmps159
 go_wp2
 go_ret
 exact ⟨rfl,rfl⟩
theorem alu8_any (a b:Int) (ha:U64 a) (hb:U64 b) (w:World):Calls Tryz.prog 160 #[.int .u64 a,.int .u64 b] w fun e w'=>e=.returned (.int .u64 (aluF 8 a b))∧w'=w:=by
 have e:aluF 8 a b=bits .or .u64 a b:=by simp [aluF]
 rw [e]
 clear e
 unfold U64 at ha hb
 go_enter Tryz.func160,Tryz.ntmps160
 go_wp2
 go_ret
 exact ⟨rfl,rfl⟩
theorem alu9_any (a b:Int) (ha:U64 a) (hb:U64 b) (w:World):Calls Tryz.prog 161 #[.int .u64 a,.int .u64 b] w fun e w'=>e=.returned (.int .u64 (aluF 9 a b))∧w'=w:=by
 have e:aluF 9 a b=bits .and .u64 a b:=by simp [aluF]
 rw [e]
 clear e
 unfold U64 at ha hb
 go_enter Tryz.func161,Tryz.ntmps161
 go_wp2
 go_ret
 exact ⟨rfl,rfl⟩
theorem alu10_any (a b:Int) (ha:U64 a) (hb:U64 b) (w:World):Calls Tryz.prog 162 #[.int .u64 a,.int .u64 b] w fun e w'=>e=.returned (.int .u64 (aluF 10 a b))∧w'=w:=by
 have e:aluF 10 a b=IntKind.u64.wrap (a * b):=by simp [aluF]
 rw [e]
 clear e
 unfold U64 at ha hb
 go_enter Tryz.func162,Tryz.ntmps162
 go_wp2
 go_ret
 exact ⟨rfl,rfl⟩
theorem alu13_any (a b:Int) (ha:U64 a) (hb:U64 b) (w:World):Calls Tryz.prog 167 #[.int .u64 a,.int .u64 b] w fun e w'=>e=.returned (.int .u64 (aluF 13 a b))∧w'=w:=by
 unfold U64 at ha hb
 by_cases h:b=0
 ·subst h
  have e:aluF 13 a 0=18446744073709551615:=by simp [aluF]
  rw [e]
  clear e
  go_enter Tryz.func167,Tryz.ntmps167
  go_wp2
  go_ret
  exact ⟨rfl,rfl⟩
 ·have e:aluF 13 a b=a / b:=by simp [aluF,h]
  have tb:(b == 0)=false:=by simpa using h
  rw [e]
  clear e
  go_enter Tryz.func167,Tryz.ntmps167
  go_wp2
  go_ret
  exact ⟨rfl,rfl⟩
theorem alu15_any (a b:Int) (ha:U64 a) (hb:U64 b) (w:World):Calls Tryz.prog 170 #[.int .u64 a,.int .u64 b] w fun e w'=>e=.returned (.int .u64 (aluF 15 a b))∧w'=w:=by
 unfold U64 at ha hb
 by_cases h:b=0
 ·subst h
  have e:aluF 15 a 0=a:=by simp [aluF]
  rw [e]
  clear e
  go_enter Tryz.func170,Tryz.ntmps170
  go_wp2
  go_ret
  exact ⟨rfl,rfl⟩
 ·have e:aluF 15 a b=a % b:=by simp [aluF,h]
  have tb:(b == 0)=false:=by simpa using h
  rw [e]
  clear e
  go_enter Tryz.func170,Tryz.ntmps170
  go_wp2
  go_ret
  exact ⟨rfl,rfl⟩
end
section
open Go.RowKit
def tableV:Value:=.agg #[.func (.func 151) #[] #[],.func (.func 152) #[] #[],.func (.func 153) #[] #[],.func (.func 154) #[] #[],.func (.func 156) #[] #[],.func (.func 157) #[] #[],.func (.func 158) #[] #[],.func (.func 159) #[] #[],.func (.func 160) #[] #[],.func (.func 161) #[] #[],.func (.func 162) #[] #[],.func (.func 163) #[] #[],.func (.func 165) #[] #[],.func (.func 167) #[] #[],.func (.func 168) #[] #[],.func (.func 170) #[] #[]]
theorem v8 (w:World):Calls Tryz.prog 131 #[] w (Ret w tableV):=by
 have hz:∀ w:World,(zeroValue 168).run Tryz.prog w=.ok (.agg (Array.replicate 16 .nilFunc)) w:=fun w=>by kernel_rfl
 go_enter Tryz.func131,Tryz.ntmps131
 go_wp2
 refine bodyPost_ret (results_cell_row (P:=Tryz.prog) (p:=0) (ty:=168) rfl _ _ w.heap.size 168 _ (0,0) _ rfl (heap_alloc_new w _) Tryz.underlying168 rfl (by kernel_rfl)) rfl ?_
 exact ⟨rfl,(wu _ _).alloc (wo _) _⟩
theorem opWord_cases {n:Int} (h:(xz n).isSome=true):n=0∨n=1∨n=2∨n=3∨n=4∨n=5∨n=6∨n=7∨n=8∨n=9∨n=10∨n=13∨n=15:=by
 by_cases hc:n=0∨n=1∨n=2∨n=3∨n=4∨n=5∨n=6∨n=7∨n=8∨n=9∨n=10∨n=13∨n=15
 ·exact hc
 ·exfalso
  simp only [not_or] at hc
  obtain ⟨h0,h1,h2,h3,h4,h5,h6,h7,h8,h9,h10,h13,h15⟩:=hc
  simp [xz,h0,h1,h2,h3,h4,h5,h6,h7,h8,h9,h10,h13,h15] at h
theorem two0_any (a b:Int) (ha:U64 a) (hb:U64 b) (w:World):Calls Tryz.prog 92 #[.int .i64 0,.int .u64 a,.int .u64 b] w (Ret w (.tuple #[.int .u64 (aluF 0 a b),.bool true])):=by
 have HA:=k8 (fun w=>alu0_any a b ha hb w)
 have hcf:∀ (args:Array Value) (w:World),(callFunc 151 args).run Tryz.prog w=.ok (.enter 151 args) w:=fun _ _=>by kernel_rfl
 have hix:∀ w:World,(Instr.index 168 tableV (.int .i64 0)).run Tryz.prog w=.ok (.func (.func 151) #[] #[]) w:=fun _=>by kernel_rfl
 generalize aluF 0 a b=r at *
 clear ha hb
 go_enter Tryz.func92,Tryz.ntmps92
 go_wp2_with fail
 refine (v8 _).mono ?_
 rintro e w1 ⟨rfl,hB⟩
 have HB:=k8 hB
 clear hB
 go_wp2_with fail
 refine (HA.out _).mono ?_
 rintro e w2 ⟨rfl,rfl⟩
 go_wp2
 go_ret2
 exact ⟨rfl,HB.out⟩
theorem two1_any (a b:Int) (ha:U64 a) (hb:U64 b) (w:World):Calls Tryz.prog 92 #[.int .i64 1,.int .u64 a,.int .u64 b] w (Ret w (.tuple #[.int .u64 (aluF 1 a b),.bool true])):=by
 have HA:=k8 (fun w=>alu1_any a b ha hb w)
 have hcf:∀ (args:Array Value) (w:World),(callFunc 152 args).run Tryz.prog w=.ok (.enter 152 args) w:=fun _ _=>by kernel_rfl
 have hix:∀ w:World,(Instr.index 168 tableV (.int .i64 1)).run Tryz.prog w=.ok (.func (.func 152) #[] #[]) w:=fun _=>by kernel_rfl
 generalize aluF 1 a b=r at *
 clear ha hb
 go_enter Tryz.func92,Tryz.ntmps92
 go_wp2_with fail
 refine (v8 _).mono ?_
 rintro e w1 ⟨rfl,hB⟩
 have HB:=k8 hB
 clear hB
 go_wp2_with fail
 refine (HA.out _).mono ?_
 rintro e w2 ⟨rfl,rfl⟩
 go_wp2
 go_ret2
 exact ⟨rfl,HB.out⟩
theorem two2_any (a b:Int) (ha:U64 a) (hb:U64 b) (w:World):Calls Tryz.prog 92 #[.int .i64 2,.int .u64 a,.int .u64 b] w (Ret w (.tuple #[.int .u64 (aluF 2 a b),.bool true])):=by
 have HA:=k8 (fun w=>alu2_any a b ha hb w)
 have hcf:∀ (args:Array Value) (w:World),(callFunc 153 args).run Tryz.prog w=.ok (.enter 153 args) w:=fun _ _=>by kernel_rfl
 have hix:∀ w:World,(Instr.index 168 tableV (.int .i64 2)).run Tryz.prog w=.ok (.func (.func 153) #[] #[]) w:=fun _=>by kernel_rfl
 generalize aluF 2 a b=r at *
 clear ha hb
 go_enter Tryz.func92,Tryz.ntmps92
 go_wp2_with fail
 refine (v8 _).mono ?_
 rintro e w1 ⟨rfl,hB⟩
 have HB:=k8 hB
 clear hB
 go_wp2_with fail
 refine (HA.out _).mono ?_
 rintro e w2 ⟨rfl,rfl⟩
 go_wp2
 go_ret2
 exact ⟨rfl,HB.out⟩
theorem two3_any (a b:Int) (ha:U64 a) (hb:U64 b) (w:World):Calls Tryz.prog 92 #[.int .i64 3,.int .u64 a,.int .u64 b] w (Ret w (.tuple #[.int .u64 (aluF 3 a b),.bool true])):=by
 have HA:=k8 (fun w=>alu3_any a b ha hb w)
 have hcf:∀ (args:Array Value) (w:World),(callFunc 154 args).run Tryz.prog w=.ok (.enter 154 args) w:=fun _ _=>by kernel_rfl
 have hix:∀ w:World,(Instr.index 168 tableV (.int .i64 3)).run Tryz.prog w=.ok (.func (.func 154) #[] #[]) w:=fun _=>by kernel_rfl
 generalize aluF 3 a b=r at *
 clear ha hb
 go_enter Tryz.func92,Tryz.ntmps92
 go_wp2_with fail
 refine (v8 _).mono ?_
 rintro e w1 ⟨rfl,hB⟩
 have HB:=k8 hB
 clear hB
 go_wp2_with fail
 refine (HA.out _).mono ?_
 rintro e w2 ⟨rfl,rfl⟩
 go_wp2
 go_ret2
 exact ⟨rfl,HB.out⟩
theorem two4_any (a b:Int) (ha:U64 a) (hb:U64 b) (w:World):Calls Tryz.prog 92 #[.int .i64 4,.int .u64 a,.int .u64 b] w (Ret w (.tuple #[.int .u64 (aluF 4 a b),.bool true])):=by
 have HA:=k8 (fun w=>alu4_any a b ha hb w)
 have hcf:∀ (args:Array Value) (w:World),(callFunc 156 args).run Tryz.prog w=.ok (.enter 156 args) w:=fun _ _=>by kernel_rfl
 have hix:∀ w:World,(Instr.index 168 tableV (.int .i64 4)).run Tryz.prog w=.ok (.func (.func 156) #[] #[]) w:=fun _=>by kernel_rfl
 generalize aluF 4 a b=r at *
 clear ha hb
 go_enter Tryz.func92,Tryz.ntmps92
 go_wp2_with fail
 refine (v8 _).mono ?_
 rintro e w1 ⟨rfl,hB⟩
 have HB:=k8 hB
 clear hB
 go_wp2_with fail
 refine (HA.out _).mono ?_
 rintro e w2 ⟨rfl,rfl⟩
 go_wp2
 go_ret2
 exact ⟨rfl,HB.out⟩
theorem two5_any (a b:Int) (ha:U64 a) (hb:U64 b) (w:World):Calls Tryz.prog 92 #[.int .i64 5,.int .u64 a,.int .u64 b] w (Ret w (.tuple #[.int .u64 (aluF 5 a b),.bool true])):=by
 have HA:=k8 (fun w=>alu5_any a b ha hb w)
 have hcf:∀ (args:Array Value) (w:World),(callFunc 157 args).run Tryz.prog w=.ok (.enter 157 args) w:=fun _ _=>by kernel_rfl
 have hix:∀ w:World,(Instr.index 168 tableV (.int .i64 5)).run Tryz.prog w=.ok (.func (.func 157) #[] #[]) w:=fun _=>by kernel_rfl
 generalize aluF 5 a b=r at *
 clear ha hb
 go_enter Tryz.func92,Tryz.ntmps92
 go_wp2_with fail
 refine (v8 _).mono ?_
 rintro e w1 ⟨rfl,hB⟩
 have HB:=k8 hB
 clear hB
 go_wp2_with fail
 refine (HA.out _).mono ?_
 rintro e w2 ⟨rfl,rfl⟩
 go_wp2
 go_ret2
 exact ⟨rfl,HB.out⟩
theorem two6_any (a b:Int) (ha:U64 a) (hb:U64 b) (w:World):Calls Tryz.prog 92 #[.int .i64 6,.int .u64 a,.int .u64 b] w (Ret w (.tuple #[.int .u64 (aluF 6 a b),.bool true])):=by
 have HA:=k8 (fun w=>alu6_any a b ha hb w)
 have hcf:∀ (args:Array Value) (w:World),(callFunc 158 args).run Tryz.prog w=.ok (.enter 158 args) w:=fun _ _=>by kernel_rfl
 have hix:∀ w:World,(Instr.index 168 tableV (.int .i64 6)).run Tryz.prog w=.ok (.func (.func 158) #[] #[]) w:=fun _=>by kernel_rfl
 generalize aluF 6 a b=r at *
 clear ha hb
 go_enter Tryz.func92,Tryz.ntmps92
 go_wp2_with fail
 refine (v8 _).mono ?_
 rintro e w1 ⟨rfl,hB⟩
 have HB:=k8 hB
 clear hB
 go_wp2_with fail
 refine (HA.out _).mono ?_
 rintro e w2 ⟨rfl,rfl⟩
 go_wp2
 go_ret2
 exact ⟨rfl,HB.out⟩
theorem two7_any (a b:Int) (ha:U64 a) (hb:U64 b) (w:World):Calls Tryz.prog 92 #[.int .i64 7,.int .u64 a,.int .u64 b] w (Ret w (.tuple #[.int .u64 (aluF 7 a b),.bool true])):=by
 have HA:=k8 (fun w=>alu7_any a b ha hb w)
 have hcf:∀ (args:Array Value) (w:World),(callFunc 159 args).run Tryz.prog w=.ok (.enter 159 args) w:=fun _ _=>by kernel_rfl
 have hix:∀ w:World,(Instr.index 168 tableV (.int .i64 7)).run Tryz.prog w=.ok (.func (.func 159) #[] #[]) w:=fun _=>by kernel_rfl
 generalize aluF 7 a b=r at *
 clear ha hb
 go_enter Tryz.func92,Tryz.ntmps92
 go_wp2_with fail
 refine (v8 _).mono ?_
 rintro e w1 ⟨rfl,hB⟩
 have HB:=k8 hB
 clear hB
 go_wp2_with fail
 refine (HA.out _).mono ?_
 rintro e w2 ⟨rfl,rfl⟩
 go_wp2
 go_ret2
 exact ⟨rfl,HB.out⟩
theorem two8_any (a b:Int) (ha:U64 a) (hb:U64 b) (w:World):Calls Tryz.prog 92 #[.int .i64 8,.int .u64 a,.int .u64 b] w (Ret w (.tuple #[.int .u64 (aluF 8 a b),.bool true])):=by
 have HA:=k8 (fun w=>alu8_any a b ha hb w)
 have hcf:∀ (args:Array Value) (w:World),(callFunc 160 args).run Tryz.prog w=.ok (.enter 160 args) w:=fun _ _=>by kernel_rfl
 have hix:∀ w:World,(Instr.index 168 tableV (.int .i64 8)).run Tryz.prog w=.ok (.func (.func 160) #[] #[]) w:=fun _=>by kernel_rfl
 generalize aluF 8 a b=r at *
 clear ha hb
 go_enter Tryz.func92,Tryz.ntmps92
 go_wp2_with fail
 refine (v8 _).mono ?_
 rintro e w1 ⟨rfl,hB⟩
 have HB:=k8 hB
 clear hB
 go_wp2_with fail
 refine (HA.out _).mono ?_
 rintro e w2 ⟨rfl,rfl⟩
 go_wp2
 go_ret2
 exact ⟨rfl,HB.out⟩
theorem two9_any (a b:Int) (ha:U64 a) (hb:U64 b) (w:World):Calls Tryz.prog 92 #[.int .i64 9,.int .u64 a,.int .u64 b] w (Ret w (.tuple #[.int .u64 (aluF 9 a b),.bool true])):=by
 have HA:=k8 (fun w=>alu9_any a b ha hb w)
 have hcf:∀ (args:Array Value) (w:World),(callFunc 161 args).run Tryz.prog w=.ok (.enter 161 args) w:=fun _ _=>by kernel_rfl
 have hix:∀ w:World,(Instr.index 168 tableV (.int .i64 9)).run Tryz.prog w=.ok (.func (.func 161) #[] #[]) w:=fun _=>by kernel_rfl
 generalize aluF 9 a b=r at *
 clear ha hb
 go_enter Tryz.func92,Tryz.ntmps92
 go_wp2_with fail
 refine (v8 _).mono ?_
 rintro e w1 ⟨rfl,hB⟩
 have HB:=k8 hB
 clear hB
 go_wp2_with fail
 refine (HA.out _).mono ?_
 rintro e w2 ⟨rfl,rfl⟩
 go_wp2
 go_ret2
 exact ⟨rfl,HB.out⟩
theorem two10_any (a b:Int) (ha:U64 a) (hb:U64 b) (w:World):Calls Tryz.prog 92 #[.int .i64 10,.int .u64 a,.int .u64 b] w (Ret w (.tuple #[.int .u64 (aluF 10 a b),.bool true])):=by
 have HA:=k8 (fun w=>alu10_any a b ha hb w)
 have hcf:∀ (args:Array Value) (w:World),(callFunc 162 args).run Tryz.prog w=.ok (.enter 162 args) w:=fun _ _=>by kernel_rfl
 have hix:∀ w:World,(Instr.index 168 tableV (.int .i64 10)).run Tryz.prog w=.ok (.func (.func 162) #[] #[]) w:=fun _=>by kernel_rfl
 generalize aluF 10 a b=r at *
 clear ha hb
 go_enter Tryz.func92,Tryz.ntmps92
 go_wp2_with fail
 refine (v8 _).mono ?_
 rintro e w1 ⟨rfl,hB⟩
 have HB:=k8 hB
 clear hB
 go_wp2_with fail
 refine (HA.out _).mono ?_
 rintro e w2 ⟨rfl,rfl⟩
 go_wp2
 go_ret2
 exact ⟨rfl,HB.out⟩
theorem two13_any (a b:Int) (ha:U64 a) (hb:U64 b) (w:World):Calls Tryz.prog 92 #[.int .i64 13,.int .u64 a,.int .u64 b] w (Ret w (.tuple #[.int .u64 (aluF 13 a b),.bool true])):=by
 have HA:=k8 (fun w=>alu13_any a b ha hb w)
 have hcf:∀ (args:Array Value) (w:World),(callFunc 167 args).run Tryz.prog w=.ok (.enter 167 args) w:=fun _ _=>by kernel_rfl
 have hix:∀ w:World,(Instr.index 168 tableV (.int .i64 13)).run Tryz.prog w=.ok (.func (.func 167) #[] #[]) w:=fun _=>by kernel_rfl
 generalize aluF 13 a b=r at *
 clear ha hb
 go_enter Tryz.func92,Tryz.ntmps92
 go_wp2_with fail
 refine (v8 _).mono ?_
 rintro e w1 ⟨rfl,hB⟩
 have HB:=k8 hB
 clear hB
 go_wp2_with fail
 refine (HA.out _).mono ?_
 rintro e w2 ⟨rfl,rfl⟩
 go_wp2
 go_ret2
 exact ⟨rfl,HB.out⟩
theorem two15_any (a b:Int) (ha:U64 a) (hb:U64 b) (w:World):Calls Tryz.prog 92 #[.int .i64 15,.int .u64 a,.int .u64 b] w (Ret w (.tuple #[.int .u64 (aluF 15 a b),.bool true])):=by
 have HA:=k8 (fun w=>alu15_any a b ha hb w)
 have hcf:∀ (args:Array Value) (w:World),(callFunc 170 args).run Tryz.prog w=.ok (.enter 170 args) w:=fun _ _=>by kernel_rfl
 have hix:∀ w:World,(Instr.index 168 tableV (.int .i64 15)).run Tryz.prog w=.ok (.func (.func 170) #[] #[]) w:=fun _=>by kernel_rfl
 generalize aluF 15 a b=r at *
 clear ha hb
 go_enter Tryz.func92,Tryz.ntmps92
 go_wp2_with fail
 refine (v8 _).mono ?_
 rintro e w1 ⟨rfl,hB⟩
 have HB:=k8 hB
 clear hB
 go_wp2_with fail
 refine (HA.out _).mono ?_
 rintro e w2 ⟨rfl,rfl⟩
 go_wp2
 go_ret2
 exact ⟨rfl,HB.out⟩
theorem two_any (n a b:Int) (hn:(xz n).isSome=true) (ha:U64 a) (hb:U64 b) (w:World):Calls Tryz.prog 92 #[.int .i64 n,.int .u64 a,.int .u64 b] w (Ret w (.tuple #[.int .u64 (aluF n a b),.bool true])):=by
 rcases opWord_cases hn with rfl|rfl|rfl|rfl|rfl|rfl|rfl|rfl|rfl|rfl|rfl|rfl|rfl
 ·exact two0_any a b ha hb w
 ·exact two1_any a b ha hb w
 ·exact two2_any a b ha hb w
 ·exact two3_any a b ha hb w
 ·exact two4_any a b ha hb w
 ·exact two5_any a b ha hb w
 ·exact two6_any a b ha hb w
 ·exact two7_any a b ha hb w
 ·exact two8_any a b ha hb w
 ·exact two9_any a b ha hb w
 ·exact two10_any a b ha hb w
 ·exact two13_any a b ha hb w
 ·exact two15_any a b ha hb w
theorem wrap_range (n:Int):U64 (IntKind.u64.wrap n):=by rw [IntKind.wrap_u64];unfold U64;omega
theorem bits_range (op:BinOp) (a b:Int):U64 (bits op .u64 a b):=⟨bits_lo_u64 _ _ _,by have:=bits_hi_u64 op a b;omega⟩
theorem pow_pos' (n:Nat):(0:Int)<2 ^ n:=Int.pow_pos (by decide)
theorem q6 {c:Prop} [Decidable c] {x y:Int} (hx:U64 x) (hy:U64 y):U64 (if c then x else y):=by split<;>assumption
theorem aluF_range {n a b:Int} (ha:U64 a) (hb:U64 b):U64 (aluF n a b):=by
 have h0:U64 0:=⟨by decide,by decide⟩
 have h1:U64 1:=⟨by decide,by decide⟩
 have hd:∀ c:Int,0≤c→U64 (a / c):=fun c hc=>⟨Int.ediv_nonneg ha.1 hc,Int.lt_of_le_of_lt (Int.ediv_le_self _ ha.1) ha.2⟩
 have h6:U64 (a.fdiv (2 ^ far b)):=by
  have hp:=pow_pos' (far b)
  rw [Int.fdiv_eq_ediv_of_nonneg _ (Int.le_of_lt hp)]
  exact hd _ (Int.le_of_lt hp)
 have h15:U64 (if b=0 then a else a % b):=by
  split
  ·exact ha
  ·rename_i h
   exact ⟨Int.emod_nonneg _ h,Int.lt_trans (Int.emod_lt_of_pos _ (by have:=hb.1;omega)) hb.2⟩
 exact q6 (wrap_range _) (q6 (wrap_range _) (q6 (wrap_range _) (q6 (q6 h1 h0) (q6 (q6 h1 h0) (q6 (bits_range _ _ _) (q6 h6 (q6 (wrap_range _) (q6 (bits_range _ _ _) (q6 (bits_range _ _ _) (q6 (wrap_range _) (q6 (q6 ⟨by decide,by decide⟩ (hd _ hb.1)) (q6 h15 h0))))))))))))
end
section
open Go.RowKit
theorem zeroS (w:World):(zeroValue 26).run Tryz.prog w=.ok (.slice none 0 0) w:=by kernel_rfl
theorem zeroU (w:World):(zeroValue 35).run Tryz.prog w=.ok (.int .u64 0) w:=by kernel_rfl
theorem array_fr {w0:World} {p:Src} {bk:List Nat} {wb ob sb:Nat} {sv:Value} {secs:Refs} {shp:List Nat} {st:St} {i fb vm pm:Nat} {vars:Vars} {ptrs:Refs} {w:World} (hR:vh w0 p bk wb ob sb sv secs shp st w) (hF:zx bk wb ob i fb vm pm vars ptrs w) (s:ByteArray) (hs:(aget ptrs s).isSome=true∨(aget secs s).isSome=true) :
  Calls Tryz.prog 59 #[.pointer (some ⟨fb,0,none⟩),.string s] w fun e w'=>w'=w∧∃ v,e=.returned v∧absV bk v=some (km secs ptrs s):=by
 obtain ⟨lv,hl,he⟩:=hF.pmap
 obtain ⟨g1,g2⟩:=RefsAt.get (w:=w) (b:=pm) he s
 obtain ⟨k0,-,-,k3⟩:=hF.cells
 have HL:=k8 hl
 cases ho:aget ptrs s with
 | some r=>
  obtain ⟨v,hv,hab⟩:=g2 r ho
  have hab':=hab
  obtain ⟨b,c,rfl,-,-⟩:=absV_some hab
  have hrf:km secs ptrs s=r:=by unfold km;rw [ho]
  rw [hrf]
  have HA:=k8 hab'
  clear hR hF g1 g2 he hs hl hab hab' hrf ho
  go_enter Tryz.func59,Tryz.ntmps59
  go_wp2_with (at_lookup;go_loud (refine yp rfl _ _ _ _ rfl keyS 26 Tryz.underlying71 _ (zeroS _) rfl HL.out _ rfl ?_))
  go_ret
  exact ⟨rfl,_,rfl,HA.out⟩
 | none=>
  have hn:=g1 ho
  obtain ⟨r,hr⟩:∃ r,aget secs s=some r:=by
   rw [ho] at hs
   simp at hs
   exact Option.isSome_iff_exists.1 hs
  obtain ⟨lv2,hl2,he2⟩:=hR.secs
  obtain ⟨v,hv,hab⟩:=(RefsAt.get (w:=w) (b:=sb) he2 s).2 r hr
  have hab':=hab
  obtain ⟨b,c,rfl,-,-⟩:=absV_some hab
  have hrf:km secs ptrs s=r:=by unfold km refAt;rw [ho];simp only;rw [hr];rfl
  rw [hrf]
  have HA:=k8 hab'
  have HL2:=k8 hl2
  have hsec:=hR.sec
  clear hR hF g1 g2 he he2 hs hl hl2 hab hab' hrf ho hr
  go_enter Tryz.func59,Tryz.ntmps59
  go_wp2_with (first|(at_lookup;refine yp rfl _ _ _ _ rfl keyS 26 Tryz.underlying71 _ (zeroS _) rfl HL.out _ rfl ?_)|(at_lookup;go_loud (refine yp rfl _ _ _ _ rfl keyS 26 Tryz.underlying71 _ (zeroS _) rfl HL2.out _ rfl ?_)))
  go_ret
  exact ⟨rfl,_,rfl,HA.out⟩
theorem element_fr {w0:World} {p:Src} {bk:List Nat} {wb ob sb:Nat} {sv:Value} {secs:Refs} {shp:List Nat} {st:St} {i fb vm pm:Nat} {vars:Vars} {ptrs:Refs} {w:World} (hR:vh w0 p bk wb ob sb sv secs shp st w) (hF:zx bk wb ob i fb vm pm vars ptrs w) (s:ByteArray) (hs:(aget ptrs s).isSome=true∨(aget secs s).isSome=true)
  (h1:1≤(km secs ptrs s).len) (h2:(km secs ptrs s).len≤100000) (x:Int) (hx:U64 x) :
  Calls Tryz.prog 35 #[.pointer (some ⟨fb,0,none⟩),.string s,.int .u64 x] w fun e w'=>w'=w∧∃ b,e=.returned (.pointer (some ⟨b,(km secs ptrs s).at x,none⟩))∧bk[(km secs ptrs s).row]?=some b:=by
 have HA:=k8 (array_fr hR hF s hs)
 generalize km secs ptrs s=r at *
 unfold U64 at hx
 clear hR hF hs
 go_enter Tryz.func35,Tryz.ntmps35
 go_wp2_with fail
 refine HA.out.mono ?_
 rintro e w1 ⟨rfl,v,rfl,hv⟩
 obtain ⟨b,c,rfl,hb,hc⟩:=absV_some hv
 have HBk:=k8 hb
 have hm0:((r.len:Int) == 0)=false:=by simp;omega
 have hm1:0≤x % (r.len:Int):=Int.emod_nonneg _ (by omega)
 have hm2:x % (r.len:Int)<(r.len:Int):=Int.emod_lt_of_pos _ (by omega)
 have hm3:¬ (r.len:Int)=0:=by omega
 have hm4:((r.len:Int) % 18446744073709551616)=r.len:=by omega
 have hm5:¬ r.len=0:=by omega
 clear hv hb HA
 go_wp2_with fail
 go_ret
 exact ⟨rfl,b,rfl,HBk.out⟩
end
section
open Go.RowKit
theorem num_fr {w0:World} (x:Expr) (v f:Value) (w:World) (hx:zl w0 x v):Calls Tryz.prog 52 #[f,v] w (Ret w (.int .u64 x.num)):=by
 obtain ⟨a,c,rfl,-⟩:=qu hx
 have HB:=k8 ((wu w.heap.size w).alloc (wo _) (.cells #[.int .i64 x.kind,.int .u64 x.num,.string x.name,.slice a x.args.length c] 53))
 clear hx
 go_enter Tryz.func52,Tryz.ntmps52
 go_wp2
 go_ret
 exact ⟨rfl,HB.out⟩
theorem var_get (l:Vars) (s:ByteArray):(aget (l.map fun x=>(x.1,Value.int .u64 x.2)) s).getD (.int .u64 0)=.int .u64 ((aget l s).getD 0):=by
 rw [ka]
 cases aget l s<;>rfl
theorem frame_fr {bk:List Nat} {wb ob i:Nat} {w:World} (h1:∀ b∈bk,b<w.heap.size) (h2:wb<w.heap.size) (h3:ob≤w.heap.size) :
  Calls Tryz.prog 25 #[.pointer (some ⟨wb,0,none⟩),.int .i64 i] w fun e w'=>Below w.heap.size w w'∧e=.returned (.pointer (some ⟨w.heap.size+1+1,0,none⟩))∧zx bk wb ob i (w.heap.size+1+1) w.heap.size (w.heap.size+1) [] [] w':=by
 have hz:∀ w:World,(zeroValue 79).run Tryz.prog w=.ok (.agg #[.pointer none,.int .i64 0,.map none,.map none]) w:=fun w=>by kernel_rfl
 have hmk:∀ (t:TypeId) (w:World),(Instr.makeMap t none).run Tryz.prog w=.ok (.map (some w.heap.size)) (w.alloc (.map #[] 0)):=fun t w=>rfl
 have hB:Below w.heap.size w (((w.alloc (.map #[] 0)).alloc (.map #[] 0)).alloc (.cells #[.pointer (some ⟨wb,0,none⟩),.int .i64 i,.map (some w.heap.size),.map (some (w.heap.size+1))] 79)):=(((wu _ _).alloc (wo _) _).alloc (by (try simp)<;>omega) _).alloc (by (try simp)<;>omega) _
 have m0:(((w.alloc (.map #[] 0)).alloc (.map #[] 0)).alloc (.cells #[.pointer (some ⟨wb,0,none⟩),.int .i64 i,.map (some w.heap.size),.map (some (w.heap.size+1))] 79)).heap[w.heap.size]?=some (.map #[] 0):=by
  rw [Go.heap_alloc_old _ _ (by simp;omega),Go.heap_alloc_old _ _ (by simp)]
  exact Go.heap_alloc_new w _
 have m1:(((w.alloc (.map #[] 0)).alloc (.map #[] 0)).alloc (.cells #[.pointer (some ⟨wb,0,none⟩),.int .i64 i,.map (some w.heap.size),.map (some (w.heap.size+1))] 79)).heap[w.heap.size+1]?=some (.map #[] 0):=by
  rw [Go.heap_alloc_old _ _ (by simp)]
  have:=Go.heap_alloc_new (w.alloc (.map #[] 0)) (.map #[] 0)
  simpa using this
 have m2:(((w.alloc (.map #[] 0)).alloc (.map #[] 0)).alloc (.cells #[.pointer (some ⟨wb,0,none⟩),.int .i64 i,.map (some w.heap.size),.map (some (w.heap.size+1))] 79)).heap[w.heap.size+1+1]?=some (.cells #[.pointer (some ⟨wb,0,none⟩),.int .i64 i,.map (some w.heap.size),.map (some (w.heap.size+1))] 79):=by
  have:=Go.heap_alloc_new ((w.alloc (.map #[] 0)).alloc (.map #[] 0)) (.cells #[.pointer (some ⟨wb,0,none⟩),.int .i64 i,.map (some w.heap.size),.map (some (w.heap.size+1))] 79)
  simpa using this
 have hF:zx bk wb ob i (w.heap.size+1+1) w.heap.size (w.heap.size+1) [] [] (((w.alloc (.map #[] 0)).alloc (.map #[] 0)).alloc (.cells #[.pointer (some ⟨wb,0,none⟩),.int .i64 i,.map (some w.heap.size),.map (some (w.heap.size+1))] 79)):=by
  refine ⟨⟨?_,?_,?_,?_⟩,calm_cells m2 (by decide) (fun hm=>by have:=h1 _ hm;omega) (by omega),calm_map m0 (fun hm=>by have:=h1 _ hm;omega) (by omega),calm_map m1 (fun hm=>by have:=h1 _ hm;omega) (by omega),⟨by omega,by omega,by omega⟩,⟨by omega,by omega,by omega⟩,fun x hx=>(by cases hx),⟨_,_,m0,rfl⟩,⟨[],⟨_,_,m1,rfl⟩,rfl⟩⟩
  all_goals (unfold World.cell?;simp only;rw [m2];rfl)
 have HF:=k8 hF
 have HB:=k8 hB
 clear hF hB m0 m1 m2
 go_enter Tryz.func25,Tryz.ntmps25
 go_wp2
 go_ret
 exact ⟨HB.out,rfl,HF.out⟩
theorem callee_fr (x:Fun) (v:Value) (s:ByteArray) (b:Nat) (w w1:World) (hI:FunIs w1 x v) (hc:w.cell? ⟨b,2,none⟩=some (.string s)):Calls Tryz.prog 94 #[v,.pointer (some ⟨b,0,none⟩)] w (Ret w (.bool (x.name == s))):=by
 obtain ⟨a0,c0,a1,c1,rfl,-,-⟩:=hI
 have HB:=k8 ((wu w.heap.size w).alloc (wo _) (.cells #[.string x.name,.bool x.out,.slice a0 x.params.length c0,.slice a1 x.body.length c1] 47))
 have hb:=k9 w _ hc
 have hse:=str_eq x.name s
 obtain ⟨B,hB⟩:∃ B,(x.name == s)=B:=⟨_,rfl⟩
 rw [hB] at hse ⊢
 clear hB
 go_enter Tryz.func94,Tryz.ntmps94
 go_wp2
 go_ret
 exact ⟨rfl,HB.out⟩
theorem variable_fr {w0:World} {bk:List Nat} {wb ob i fb vm pm:Nat} {vars:Vars} {ptrs:Refs} (x:Expr) (v:Value) (w:World) (hF:zx bk wb ob i fb vm pm vars ptrs w) (hx:zl w0 x v) :
  Calls Tryz.prog 53 #[.pointer (some ⟨fb,0,none⟩),v] w (Ret w (.int .u64 ((aget vars x.name).getD 0))):=by
 obtain ⟨a,c,rfl,-⟩:=qu hx
 have hBl:=(wu w.heap.size w).alloc (wo _) (.cells #[.int .i64 x.kind,.int .u64 x.num,.string x.name,.slice a x.args.length c] 53)
 have HX2:=k8 (show (w.alloc (.cells #[.int .i64 x.kind,.int .u64 x.num,.string x.name,.slice a x.args.length c] 53)).cell? ⟨w.heap.size,2,none⟩=some (.string x.name) by simp)
 have HC2:=k8 (jb hBl hF.cells.2.2.1)
 have HM:=k8 (j5.below hF.vmap hBl)
 have HB:=k8 hBl
 obtain ⟨B,hBd⟩:∃ B,(aget vars x.name).getD 0=B:=⟨_,rfl⟩
 rw [hBd]
 have HBd:=k8 hBd
 clear hx hF hBl hBd
 go_enter Tryz.func53,Tryz.ntmps53
 go_wp2_with fail
 refine je zi [.is (.pointer (some ⟨fb,0,none⟩)),.is (.pointer (some ⟨fb,0,none⟩)),.is (.pointer (some ⟨fb,2,none⟩)),.is (.map (some vm)),.is (.pointer (some ⟨w.heap.size,2,none⟩)),.is (.string x.name),.is (.int .u64 B)] (by kernel_rfl) 7 (by decide) (by kernel_rfl) _ rfl ?_ ?_
 ·refine ⟨?_,?_,?_,?_,?_,?_,?_,trivial⟩
  ·refine jc rfl rfl rfl fun x1 y hB hF hD=>?_
   have e0:slot x1 0=.pointer (some ⟨fb,0,none⟩):=hF.at 0 rfl
   clear hB hF
   simp only [execOp,ja,e0]
   first|rfl|(go_simp;try rfl)
  ·refine jc rfl rfl rfl fun x1 y hB hF hD=>?_
   obtain ⟨d0,-⟩:=hD
   have e5:slot x1 5=.pointer (some ⟨fb,0,none⟩):=d0 rfl
   clear hB hF
   simp only [execOp,ja,e5]
   first|rfl|(go_simp;try rfl)
  ·refine jc rfl rfl rfl fun x1 y hB hF hD=>?_
   obtain ⟨d0,-⟩:=hD
   have e6:slot x1 6=.pointer (some ⟨fb,0,none⟩):=d0 rfl
   clear hB hF
   simp only [execOp,ja,e6]
   first|rfl|(go_simp;try rfl)
  ·refine jc rfl rfl rfl fun x1 y hB hF hD=>?_
   obtain ⟨d0,-⟩:=hD
   have e7:slot x1 7=.pointer (some ⟨fb,2,none⟩):=d0 rfl
   have hc:y.cell? ⟨fb,2,none⟩=some (.map (some vm)):=jb hB HC2.out
   clear hB hF
   simp only [execOp,ja,e7]
   first|rfl|(go_simp;try rfl)
  ·refine jc rfl rfl rfl fun x1 y hB hF hD=>?_
   have e3:slot x1 3=.pointer (some ⟨w.heap.size,0,none⟩):=hF.at 3 rfl
   clear hB hF
   simp only [execOp,ja,e3]
   first|rfl|(go_simp;try rfl)
  ·refine jc rfl rfl rfl fun x1 y hB hF hD=>?_
   obtain ⟨d0,-⟩:=hD
   have e9:slot x1 9=.pointer (some ⟨w.heap.size,2,none⟩):=d0 rfl
   have hc:y.cell? ⟨w.heap.size,2,none⟩=some (.string x.name):=jb hB HX2.out
   clear hB hF
   simp only [execOp,ja,e9]
   first|rfl|(go_simp;try rfl)
  ·refine jc rfl rfl rfl fun x1 y hB hF hD=>?_
   obtain ⟨d0,d1,-⟩:=hD
   have e1:slot x1 8=.map (some vm):=d0 rfl
   have e2:slot x1 10=.string x.name:=d1 rfl
   have hrun:=xr keyS (j5.below HM.out hB) Tryz.underlying77 (zeroU y) x.name false
   rw [if_neg (by decide),var_get,HBd.out] at hrun
   clear hB hF
   simp only [execOp,ja,e1,e2]
   simp [hrun,Result.andThen]
 ·intro x1 y hB hF hP
  obtain ⟨p0,p1,p2,p3,p4,p5,p6,-⟩:=hP
  have hx:=jj hF [(5,.pointer (some ⟨fb,0,none⟩)),(6,.pointer (some ⟨fb,0,none⟩)),(7,.pointer (some ⟨fb,2,none⟩)),(8,.map (some vm)),(9,.pointer (some ⟨w.heap.size,2,none⟩)),(10,.string x.name),(11,.int .u64 B)] rfl ⟨p0,p1,p2,p3,p4,p5,p6,trivial⟩
  have HBy:=k8 (HB.out.trans (hB.mono (by simp)))
  clear hB hF p0 p1 p2 p3 p4 p5 p6
  subst hx
  simp only [puts,Act.put,we,wg,wi,wj,wk]
  go_wp2
  go_ret
  exact ⟨rfl,HBy.out⟩
end
section
open Go.RowKit
def callFits (p:Src) (i:Nat) (f:Fun) (x:Expr):Prop:=x.kind=5→∃ j g,yf p i x.name=some j∧p.funcs[j]?=some g∧x.args.length=g.params.length∧vr p i f x.args g.params=true
theorem typedE_fits {p:Src} {i:Nat} {f:Fun}:∀ (N:Nat) (e:Expr),e.wt≤N→(∀ x∈y4 e,arityE x)→zj p i f e=true→∀ x∈y4 e,callFits p i f x:=by
 intro N
 induction N with
 | zero=>intro e h;obtain ⟨k,n,s,xs⟩:=e;rw [Expr.wt] at h;omega
 | succ N ih=>
  intro e h ha ht x hx
  obtain ⟨k,n,s,xs⟩:=e
  rw [Expr.wt] at h
  rw [qq] at hx ha
  simp only at hx ha
  have hkid:∀ z∈xs,(z.kind=1∨zj p i f z=true)→∀ y∈y4 z,callFits p i f y:=by
   intro z hz hor y hy
   rcases hor with h1|h1
   ·have haz:=ha z (List.mem_cons_of_mem _ (jq.2 ⟨z,hz,by rw [qq];simp⟩))
    have hm:(jk z.kind).most=0:=by rw [h1];rfl
    have hz0:z.args=[]:=List.length_eq_zero_iff.1 (by have:=haz.2.2.2.1;rw [hm] at this;omega)
    rw [qq,hz0] at hy
    simp only [z7,gh,List.not_mem_nil,or_false] at hy
    subst hy
    intro h5
    omega
   ·exact ih z (by have:=mem_wt hz;omega) (fun w hw=>ha w (List.mem_cons_of_mem _ (jq.2 ⟨z,hz,hw⟩))) h1 y hy
  by_cases h5:k=5
  ·subst h5
   rw [zj,if_pos rfl] at ht
   cases hc:yf p i s with
   | none=>rw [hc] at ht;cases ht
   | some j=>
    rw [hc] at ht
    simp only at ht
    cases hg:p.funcs[j]? with
    | none=>rw [hg] at ht;cases ht
    | some g=>
     rw [hg] at ht
     simp only [Bool.and_eq_true,decide_eq_true_eq] at ht
     rcases gh.1 hx with rfl|hx
     ·exact fun _=>⟨j,g,hc,hg,ht.1,ht.2⟩
     ·obtain ⟨z,hz,hy⟩:=jq.1 hx
      exact hkid z hz (typedArgs_mem ht.1 ht.2 z hz) x hy
  ·rw [zj,if_neg h5,Bool.and_eq_true] at ht
   rcases gh.1 hx with rfl|hx
   ·exact fun h=>absurd h h5
   ·obtain ⟨z,hz,hy⟩:=jq.1 hx
    have:=ht.2
    rw [typedEs_all,List.all_eq_true] at this
    exact hkid z hz (.inr (this z hz)) x hy
theorem typedSs_fits {p:Src} {i:Nat} {f:Fun}:∀ (N:Nat) (l:List Stmt) (loops:List ByteArray),wtSs l≤N→(∀ ev∈evSs l,arityEv ev)→zw p i f loops l=true→∀ x,Sum.inr x∈evSs l→callFits p i f x:=by
 intro N
 induction N with
 | zero=>
  intro l loops h _ _ x hx
  cases l with
  | nil=>cases hx
  | cons x l=>obtain ⟨k,s,n,xs,t,e⟩:=x;simp only [wtSs,Stmt.wt] at h;omega
 | succ N ih=>
  intro l loops h ha ht x hx
  obtain ⟨z,hz,hx⟩:=yx.1 hx
  have haz:∀ ev∈evS z,arityEv ev:=fun ev hev=>ha ev (yx.2 ⟨z,hz,hev⟩)
  rw [typedSs_all,List.all_eq_true] at ht
  have htz:=ht z hz
  have hw:=mem_wtS hz
  obtain ⟨k,s,n,xs,th,el⟩:=z
  rw [Stmt.wt] at hw
  rw [ko] at htz
  simp only [Bool.and_eq_true] at htz
  obtain ⟨⟨-,h2⟩,h3,h4⟩:=htz
  rw [yz] at hx haz
  simp only [gh,gi,List.mem_map] at hx haz
  rcases hx with hx|(⟨y,hy,hx⟩|hx)|hx
  ·cases hx
  ·cases hx
   obtain ⟨w,hw',hy'⟩:=jq.1 hy
   rw [List.all_eq_true] at h2
   exact typedE_fits _ w (wo _) (fun u hu=>haz (.inr u) (.inr (.inl (.inl ⟨u,jq.2 ⟨w,hw',hu⟩,rfl⟩)))) (h2 w hw') x hy'
  ·exact ih th _ (by omega) (fun ev hev=>haz ev (.inr (.inl (.inr hev)))) h3 x hx
  ·exact ih el _ (by omega) (fun ev hev=>haz ev (.inr (.inr hev))) h4 x hx
def runE (p:Src) (i:Nat) (f:Fun) (y:Expr):Prop:=arityE y∧callFits p i f y∧(y.kind=2→isArr p f y.name=true)
def runEv (p:Src) (i:Nat) (f:Fun):Stmt ⊕ Expr→Prop
 | .inl x=>arityS x∧(x.kind=1→isArr p f x.name=true)∧∀ y∈z7 x.args,runE p i f y
 | .inr x=>∀ y∈y4 x,runE p i f y
theorem seen_true {B:List (ByteArray×Bool)} {s t:ByteArray} (h:zf B t=true):zf (aput B s true) t=true:=by
 unfold zf at *
 rw [k7]
 split
 ·rfl
 ·exact h
theorem seen_put (B:List (ByteArray×Bool)) (s:ByteArray):zf (aput B s true) s=true:=by
 unfold zf
 rw [k7]
 simp
theorem twG_bad:∀ (l:List ByteArray) (st:List (ByteArray×Bool)×Bool),st.2=true→(l.foldl twG st).2=true
 | [],st,h=>h
 | s::l,st,h=>by
  rw [List.foldl_cons]
  exact twG_bad l _ (by rw [twG,h,Bool.or_true])
theorem twiceF_bad {sec:List (ByteArray×Bool)}:∀ (l:List Fun) (st:List (ByteArray×Bool)×Bool),st.2=true→(l.foldl (twiceF sec) st).2=true
 | [],st,h=>h
 | f::l,st,h=>by
  rw [List.foldl_cons]
  refine twiceF_bad l _ ?_
  unfold twiceF
  simp only [againAll_eq,List.foldl_cons,List.foldl_nil]
  exact twG_bad _ _ (by rw [twG];simp only;rw [h,Bool.or_true])
theorem twiceF_seen {sec:List (ByteArray×Bool)} (st:List (ByteArray×Bool)×Bool) (f:Fun):(twiceF sec st f).1=aput st.1 f.name true∧(zf st.1 f.name=true→(twiceF sec st f).2=true):=by
 unfold twiceF
 simp only [againAll_eq,List.foldl_cons,List.foldl_nil]
 refine ⟨rfl,fun h=>twG_bad _ _ ?_⟩
 rw [twG,h,Bool.true_or]
theorem twice_names {sec:List (ByteArray×Bool)}:∀ (l:List Fun) (st:List (ByteArray×Bool)×Bool),(l.foldl (twiceF sec) st).2=false→(∀ f∈l,zf st.1 f.name=false)∧(l.map (·.name)).Nodup
 | [],st,_=>⟨(fun f h=>by cases h),by simp⟩
 | f::l,st,h=>by
  rw [List.foldl_cons] at h
  obtain ⟨h1,h2⟩:=twice_names l _ h
  obtain ⟨e1,e2⟩:=twiceF_seen (sec:=sec) st f
  have hf:zf st.1 f.name=false:=by
   cases hh:zf st.1 f.name with
   | false=>rfl
   | true=>rw [twiceF_bad l _ (e2 hh)] at h;cases h
  rw [e1] at h1
  refine ⟨fun g hg=>?_,?_⟩
  ·rcases gh.1 hg with rfl|hg
   ·exact hf
   ·cases hh:zf st.1 g.name with
    | false=>rfl
    | true=>have:=h1 g hg;rw [seen_true hh] at this;cases this
  ·rw [List.map_cons,List.nodup_cons]
   refine ⟨fun hm=>?_,h2⟩
   obtain ⟨g,hg,he⟩:=List.mem_map.1 hm
   have:=h1 g hg
   rw [he,seen_put] at this
   cases this
theorem names_once {p:Src} (h:twiceS p=false):(p.funcs.map (·.name)).Nodup:=(twice_names _ _ h).2
theorem callee_idx {p:Src} {i:Nat} {s:ByteArray} {j:Nat} (hn:(p.funcs.map (·.name)).Nodup) (hc:yf p i s=some j):idxOf (fun f:Fun=>f.name == s) (p.funcs.take i)=j:=by
 unfold yf at hc
 obtain ⟨h1,h2,h3⟩:=List.findIdx?_eq_some_iff_getElem.1 hc
 have hname:((p.funcs.take i)[j].name == s)=true:=by
  unfold calledP at h2
  rw [Bool.and_eq_true] at h2
  exact h2.1
 have:(p.funcs.take i).findIdx? (fun f:Fun=>f.name == s)=some j:=by
  rw [List.findIdx?_eq_some_iff_getElem]
  refine ⟨h1,hname,fun k hk=>?_⟩
  intro he
  have e1:(p.funcs.take i)[k].name=s:=eq_of_beq he
  have e2:(p.funcs.take i)[j].name=s:=eq_of_beq hname
  have hl:(p.funcs.take i).length≤p.funcs.length:=by rw [List.length_take];omega
  have:=(List.getElem_inj (xs:=p.funcs.map (·.name)) (i:=k) (j:=j) (h₀:=by rw [List.length_map];omega) (h₁:=by rw [List.length_map];omega) hn).1 (by
   rw [List.getElem_map,List.getElem_map]
   rw [List.getElem_take] at e1 e2
   rw [e1,e2])
  omega
 unfold idxOf
 rw [this]
structure RunFine (p:Src):Prop where
 evs:∀ (i:Nat) (f:Fun),p.funcs[i]?=some f→∀ ev∈evSs f.body,runEv p i f ev
 fine:kg p
theorem runFine_of {p:Src} (h:kr p=0):RunFine p:=by
 have hF:=srcFine_of h
 refine ⟨fun i f hf=>?_,hF⟩
 have hFf:=hF.funs i f hf
 have hdef:y0 p i f=true:=by
  unfold kr at h
  split at h
  ·cases h
  split at h
  ·cases h
  split at h
  ·cases h
  rename_i hd
  exact zip_all (g:=fun x=>y0 p x.2 x.1) ((Bool.not_eq_false _).mp hd) hf
 rw [y0,List.all_eq_true] at hdef
 have har:∀ ev∈evSs f.body,arityEv ev:=fun ev hev=>by
  have:=hFf.evs ev hev
  cases ev with
  | inl x=>exact this.1
  | inr x=>exact (this x (by rw [qq];simp)).1
 have hca:=typedSs_fits _ f.body [] (wo _) har hFf.typed
 obtain ⟨c1,c2⟩:=evSs_closed _ f.body (wo _)
 have hone:∀ y,Sum.inr y∈evSs f.body→runE p i f y:=fun y hy=>⟨har _ hy,hca y hy,fun h2=>by
  have:=hdef _ hy
  simp only [zh,Bool.and_eq_true,Bool.or_eq_true] at this
  rcases this.1 with h3|h3
  ·rw [h2] at h3;cases h3
  ·exact h3⟩
 intro ev hev
 cases ev with
 | inl x=>
  refine ⟨har _ hev,fun h1=>?_,fun y hy=>hone y (c1 x hev y hy)⟩
  have:=hdef _ hev
  simp only [zh,Bool.or_eq_true] at this
  rcases this with h3|h3
  ·rw [h1] at h3;cases h3
  ·exact h3
 | inr x=>exact fun y hy=>hone y (c2 x hev y hy)
theorem aget_mem {V:Type}:∀ {l:List (ByteArray×V)} {s:ByteArray} {r:V},aget l s=some r→∃ t,(t,r)∈l
 | [],_,_,h=>by cases h
 | (a,u)::l,s,r,h=>by
  rw [aget] at h
  split at h
  ·cases h;exact ⟨a,by simp⟩
  ·obtain ⟨t,ht⟩:=aget_mem h;exact ⟨t,by simp [ht]⟩
end
end Go.Proofs.YtdembmaldllmkaaGreatDoor
