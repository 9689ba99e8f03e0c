/-
  Part of the proofs of laws over the given program: contracts of its functions (what each computes, of which input), and the tables and data that they read.
  Conditions: none beyond the theorems' own hypotheses.
-/
import Derived.Test.YtdembmaldllmkaaGreatDoorPA4
import Derived.Laws.ResultCell
import Derived.Laws.CopyOwn
set_option linter.unusedVariables false
set_option linter.unusedSimpArgs false
set_option maxHeartbeats 32000000
set_option maxRecDepth 100000
namespace Go.Proofs.YtdembmaldllmkaaGreatDoor
section
open Go.RowKit
section
variable {alu:Int→Int→Int→Int} {call:Nat→Vars→Refs→St→Int×St} {p:Src} {i:Nat} {secs:Refs} (hc:∀ j vs ps st,st.opened.length≤(call j vs ps st).2.opened.length)
include hc
theorem evE_mono:∀ (N:Nat) (vars:Vars) (ptrs:Refs) (x:Expr) (st:St),x.wt≤N→st.opened.length≤(evE alu call p i secs vars ptrs x st).2.opened.length:=by
 intro N
 induction N with
 | zero=>intro vars ptrs x st h;obtain ⟨k,n,s,xs⟩:=x;rw [Expr.wt] at h;omega
 | succ N ih=>
  intro vars ptrs x st h
  obtain ⟨k,n,s,xs⟩:=x
  rw [Expr.wt] at h
  have hes:∀ (l:List Expr) (st:St),wtEs l≤N→st.opened.length≤(evEs alu call p i secs vars ptrs l st).2.opened.length:=by
   intro l
   induction l with
   | nil=>intro st _;rw [evEs];exact wo _
   | cons e l ihl=>
    intro st h
    rw [wtEs] at h
    rw [evEs]
    exact wx (ih vars ptrs e st (by omega)) (ihl _ (by omega))
  have has:∀ (l:List Expr) (qs:List z8) (y:Vars×Refs×St),wtEs l≤N→y.2.2.opened.length≤(evArgs alu call p i secs vars ptrs l qs y).2.2.opened.length:=by
   intro l
   induction l with
   | nil=>intro qs y _;rw [evArgs];exact wo _
   | cons e l ihl=>
    intro qs y h
    rw [wtEs] at h
    cases qs with
    | nil=>rw [evArgs];exact wo _
    | cons q qs=>
     rw [evArgs]
     split
     ·exact ihl qs (y.1,aput y.2.1 q.name { refAt ptrs e.name with len:=q.len.toNat },y.2.2) (by omega)
     ·exact wx (ih vars ptrs e y.2.2 (by omega)) (ihl qs (aput y.1 q.name (evE alu call p i secs vars ptrs e y.2.2).1,y.2.1,(evE alu call p i secs vars ptrs e y.2.2).2) (by omega))
  rw [evE]
  split
  ·exact wo _
  split
  ·exact wo _
  split
  ·split
   ·exact wo _
   ·split
    ·exact wo _
    ·exact wx (has xs _ ([],[],st) (by omega)) (hc _ _ _ _)
  ·have h1:=hes xs st (by omega)
   simp only
   split
   ·exact h1
   split
   ·exact h1
   split
   ·exact h1
   ·simp only [List.length_append,List.length_cons,List.length_nil];omega
theorem exSs_mono:∀ (N:Nat) (ptrs:Refs) (l:List Stmt) (y:Vars×Int×St),wtSs l≤N→y.2.2.opened.length≤(exSs alu call p i secs ptrs l y).2.2.opened.length:=by
 intro N
 induction N with
 | zero=>
  intro ptrs l y h
  cases l with
  | nil=>rw [exSs];exact wo _
  | cons x l=>obtain ⟨k,s,n,xs,t,e⟩:=x;simp only [wtSs,Stmt.wt] at h;omega
 | succ N ih=>
  intro ptrs l
  induction l with
  | nil=>intro y _;rw [exSs];exact wo _
  | cons x l ihl=>
   intro y h
   obtain ⟨k,s,n,xs,t,e⟩:=x
   rw [wtSs,Stmt.wt] at h
   rw [exSs]
   refine wx ?_ (ihl _ (by omega))
   have hE:=fun (vars:Vars) (x:Expr) (st:St)=>evE_mono (alu:=alu) (p:=p) (i:=i) (secs:=secs) hc x.wt vars ptrs x st (wo _)
   rw [exS]
   split
   ·exact hE _ _ _
   split
   ·exact wx (hE _ _ _) (hE _ _ _)
   split
   ·refine wx (hE y.1 (arg0 xs) y.2.2) ?_
    simp only
    split
    ·exact ih ptrs t (_,0,_) (by omega)
    ·exact ih ptrs e (_,0,_) (by omega)
   split
   ·have:∀ (f:Nat→Vars×St→Vars×St),(∀ m z,z.2.opened.length≤(f m z).2.opened.length)→∀ n z,z.2.opened.length≤(forN f n z).2.opened.length:=by
     intro f hf n
     induction n with
     | zero=>intro z;rw [forN];exact wo _
     | succ n ihn=>intro z;rw [forN];exact wx (ihn z) (hf _ _)
    exact this _ (fun m z=>ih ptrs t (_,0,z.2) (by omega)) _ (y.1,y.2.2)
   split
   ·exact hE _ _ _
   ·exact wo _
end
theorem callT_mono (alu:Int→Int→Int→Int) (p:Src) (secs:Refs):∀ (n j:Nat) (vs:Vars) (ps:Refs) (st:St),st.opened.length≤(callT alu p secs n j vs ps st).2.opened.length
 | 0,_,_,_,st=>by rw [callT];exact wo _
 | n+1,j,vs,ps,st=>by
  rw [callT]
  split
  ·split
   ·exact wo _
   ·exact exSs_mono (callT_mono alu p secs n) _ _ _ (vs,0,st) (wo _)
  ·exact callT_mono alu p secs n j vs ps st
structure Env where
 w0:World
 p:Src
 bk:List Nat
 wb:Nat
 ob:Nat
 sb:Nat
 sv:Value
 secs:Refs
 shp:List Nat
structure Fr where
 i:Nat
 f:Fun
 fb:Nat
 vm:Nat
 pm:Nat
 ptrs:Refs
def Env.run (E:Env) (st:St) (w:World):Prop:=vh E.w0 E.p E.bk E.wb E.ob E.sb E.sv E.secs E.shp st w
abbrev Env.rk (E:Env) (M:List Nat) (x y:World):Prop:=RK E.bk E.wb E.ob M x y
def Env.fr (E:Env) (F:Fr) (vars:Vars) (w:World):Prop:=zx E.bk E.wb E.ob F.i F.fb F.vm F.pm vars F.ptrs w
def Env.ev (E:Env) (F:Fr) (vars:Vars) (x:Expr) (st:St):Int×St:=evE aluF (callT aluF E.p E.secs F.i) E.p F.i E.secs vars F.ptrs x st
structure Env.ok (E:Env) (F:Fr):Prop where
 fix:RunFix E.w0 E.p E.bk E.wb E.ob E.sb E.secs E.shp
 fit:EvFix E.p F.i F.f E.shp F.ptrs
 fine:RunFine E.p
 wt:wtFs E.p.funcs≤100000
theorem ev_mono (E:Env) (F:Fr) (vars:Vars) (x:Expr) (st:St):st.opened.length≤(E.ev F vars x st).2.opened.length:=evE_mono (callT_mono aluF E.p E.secs F.i) x.wt vars F.ptrs x st (wo _)
def ExRet (E:Env) (w:World) (r:Int×St) (e:Ending) (w':World):Prop:=e=.returned (.int .u64 r.1)∧E.rk [] w w'∧E.run r.2 w'∧U64 r.1
def ExAt (E:Env) (F:Fr) (vars:Vars) (x:Expr):Prop:=∀ (v:Value) (w:World) (st:St),Below E.w0.heap.size E.w0 w→E.run st w→E.fr F vars w→zl E.w0 x v→(E.ev F vars x st).2.opened.length≤1000000→Calls Tryz.prog 34 #[.pointer (some ⟨F.fb,0,none⟩),v] w (ExRet E w (E.ev F vars x st))
theorem Env.below {E:Env} {F:Fr} (h:E.ok F) {w w':World} (hb:Below E.w0.heap.size E.w0 w) (k:E.rk [] w w'):Below E.w0.heap.size E.w0 w':=
 hb.trans (k.below hb.size (fun b hb'=>(h.fix.lo b hb').1) h.fix.wlo.1 (wx h.fix.wlo.1 (Nat.le_of_lt h.fix.wlo.2.1)) (fun b hb'=>by cases hb'))
theorem Env.frame {E:Env} {F:Fr} {vars:Vars} {w w':World} (h:E.fr F vars w) (k:E.rk [] w w'):E.fr F vars w':=zx.next h k (by simp) (by simp) (by simp)
theorem Env.box {E:Env} {F:Fr} (h:E.ok F) {st:St} {w:World} (hR:E.run st w) {cs:Array Value} {t:TypeId} (ht:t≠35):Calm E.bk E.wb (w.alloc (.cells cs t)) w.heap.size:=
 calm_new ht (fun b hb=>Nat.lt_of_lt_of_le (h.fix.lo b hb).2 hR.big) (Nat.lt_of_lt_of_le h.fix.wlo.2.1 hR.big)
theorem Env.arr {E:Env} {F:Fr} (h:E.ok F) {s:ByteArray} (hs:isArr E.p F.f s=true):(aget F.ptrs s).isSome=true∨(aget E.secs s).isSome=true:=by
 unfold isArr at hs
 rw [Bool.or_eq_true] at hs
 rcases hs with h1|h1
 ·left
  have e1:(aget (F.ptrs.map fun x=>(x.1,(x.2.len:Int))) s).isSome=(aget F.ptrs s).isSome:=by rw [ka (fun r:Ref=>(r.len:Int))];simp
  rw [h.fit.ptr] at e1
  rw [← e1]
  exact h1
 ·exact .inr (h.fix.all s h1)
theorem Env.ref {E:Env} {F:Fr} (h:E.ok F) {s:ByteArray} (hs:(aget F.ptrs s).isSome=true∨(aget E.secs s).isSome=true):∃ n,E.shp[(km E.secs F.ptrs s).row]?=some n∧(km E.secs F.ptrs s).off+(km E.secs F.ptrs s).len≤n∧1≤(km E.secs F.ptrs s).len:=by
 unfold km refAt
 cases ho:aget F.ptrs s with
 | some r=>
  obtain ⟨t,ht⟩:=aget_mem ho
  exact h.fit.ok (t,r) ht
 | none=>
  rw [ho] at hs
  simp only [Option.isSome_none,Bool.false_eq_true,false_or] at hs
  obtain ⟨r,hr⟩:=Option.isSome_iff_exists.1 hs
  rw [hr]
  obtain ⟨t,ht⟩:=aget_mem hr
  exact h.fix.ok (t,r) ht
theorem Env.word {E:Env} {F:Fr} (h:E.ok F) {st:St} {w:World} (hR:E.run st w) {s:ByteArray} (hs:(aget F.ptrs s).isSome=true∨(aget E.secs s).isSome=true) (x:Int) {b:Nat} (hb:E.bk[(km E.secs F.ptrs s).row]?=some b) :
  w.cell? ⟨b,(km E.secs F.ptrs s).at x,none⟩=some (.int .u64 (st.get (km E.secs F.ptrs s) x))∧w.frozen? ⟨b,(km E.secs F.ptrs s).at x,none⟩=false∧U64 (st.get (km E.secs F.ptrs s) x):=by
 obtain ⟨n,hn,hl,h1⟩:=Env.ref h hs
 generalize km E.secs F.ptrs s=r at *
 have hsh:=hR.shape
 have hm:∃ l,st.mem[r.row]?=some l∧l.length=n:=by
  have:=congrArg (fun q=>q[r.row]?) hsh
  simp only [List.getElem?_map] at this
  rw [hn] at this
  cases hq:st.mem[r.row]? with
  | none=>rw [hq] at this;simp at this
  | some l=>rw [hq] at this;exact ⟨l,rfl,by simpa using this⟩
 obtain ⟨l,hml,hll⟩:=hm
 have hat:r.at x<l.length:=by
  have h2:x % (r.len:Int)<(r.len:Int):=Int.emod_lt_of_pos _ (by omega)
  have h3:0≤x % (r.len:Int):=Int.emod_nonneg _ (by omega)
  unfold Ref.at
  omega
 have hget:st.get r x=l[r.at x]:=by
  simp [St.get,List.getD_eq_getElem?_getD,hml,List.getElem?_eq_getElem hat]
 rw [hget]
 obtain ⟨q1,q2⟩:=hR.rows _ l b hml hb (r.at x) l[r.at x] (List.getElem?_eq_getElem hat)
 exact ⟨q1,q2,hR.nums l (gg hml) _ (List.getElem_mem _)⟩
theorem vg {w0:World} {b o:Nat} {x:Expr} (h:zo w0 b o x):∃ a c,(w0.cell? ⟨b,o,none⟩=some (.int .i64 x.kind)∧w0.cell? ⟨b,o+1,none⟩=some (.int .u64 x.num)∧w0.cell? ⟨b,o+2,none⟩=some (.string x.name)∧w0.cell? ⟨b,o+3,none⟩=some (.slice a x.args.length c)) ∧
  zl w0 x (.agg #[.int .i64 x.kind,.int .u64 x.num,.string x.name,.slice a x.args.length c]):=by
 obtain ⟨a,c,h0,h1,h2,h3,hI,_⟩:=yl h
 exact ⟨a,c,⟨h0,h1,h2,h3⟩,hI⟩
theorem ev_args (E:Env) (F:Fr) (vars:Vars) (k n:Int) (s:ByteArray) (xs:List Expr) (st:St) (h0:k≠0) (h1:k≠1) (h5:k≠5) :
  E.ev F vars ⟨k,n,s,xs⟩ st=(let r:=evEs aluF (callT aluF E.p E.secs F.i) E.p F.i E.secs vars F.ptrs xs st
   if k=2 then (r.2.get (km E.secs F.ptrs s) (r.1.getD 0 0),r.2)
   else if k=3 then (aluF n (r.1.getD 0 0) (r.1.getD 1 0),r.2)
   else if k=4 then (if r.1.getD 0 0≠0 then r.1.getD 1 0 else r.1.getD 2 0,r.2)
   else (r.1.getD 0 0,{ r.2 with opened:=r.2.opened++[r.1.getD 0 0] })):=by
 unfold Env.ev
 rw [evE,if_neg h0,if_neg h1,if_neg h5]
theorem ev_one (E:Env) (F:Fr) (vars:Vars) (e0:Expr) (st:St):evEs aluF (callT aluF E.p E.secs F.i) E.p F.i E.secs vars F.ptrs [e0] st=([(E.ev F vars e0 st).1],(E.ev F vars e0 st).2):=by rw [evEs,evEs];rfl
theorem ev_two (E:Env) (F:Fr) (vars:Vars) (e0 e1:Expr) (st:St):evEs aluF (callT aluF E.p E.secs F.i) E.p F.i E.secs vars F.ptrs [e0,e1] st=([(E.ev F vars e0 st).1,(E.ev F vars e1 (E.ev F vars e0 st).2).1],(E.ev F vars e1 (E.ev F vars e0 st).2).2):=by rw [evEs,ev_one];rfl
theorem ev_three (E:Env) (F:Fr) (vars:Vars) (e0 e1 e2:Expr) (st:St):evEs aluF (callT aluF E.p E.secs F.i) E.p F.i E.secs vars F.ptrs [e0,e1,e2] st=([(E.ev F vars e0 st).1,(E.ev F vars e1 (E.ev F vars e0 st).2).1,(E.ev F vars e2 (E.ev F vars e1 (E.ev F vars e0 st).2).2).1],(E.ev F vars e2 (E.ev F vars e1 (E.ev F vars e0 st).2).2).2):=by rw [evEs,ev_two];rfl
theorem get_fr {E:Env} {F:Fr} {vars:Vars} (hk:E.ok F) {e0:Expr} (n:Int) (s:ByteArray) (H0:ExAt E F vars e0) (hs:isArr E.p F.f s=true):∀ (v:Value) (w:World) (st:St),Below E.w0.heap.size E.w0 w→E.run st w→E.fr F vars w→zl E.w0 ⟨2,n,s,[e0]⟩ v→(E.ev F vars ⟨2,n,s,[e0]⟩ st).2.opened.length≤1000000 →
  Calls Tryz.prog 54 #[.pointer (some ⟨F.fb,0,none⟩),v] w (ExRet E w (E.ev F vars ⟨2,n,s,[e0]⟩ st)):=by
 intro v w st hB0 hR hF hx hlen
 obtain ⟨a,c,rfl,hsl⟩:=qu hx
 simp only at hsl ⊢
 have hBl:=(wu w.heap.size w).alloc (wo _) (.cells #[.int .i64 2,.int .u64 n,.string s,.slice a [e0].length c] 53)
 have HCalm:=k8 (Env.box hk hR (cs:=#[.int .i64 2,.int .u64 n,.string s,.slice a [e0].length c]) (t:=53) (by decide))
 have hx2:(w.alloc (.cells #[.int .i64 2,.int .u64 n,.string s,.slice a [e0].length c] 53)).cell? ⟨w.heap.size,2,none⟩=some (.string s):=by simp
 have hx1:(w.alloc (.cells #[.int .i64 2,.int .u64 n,.string s,.slice a [e0].length c] 53)).cell? ⟨w.heap.size,1,none⟩=some (.int .u64 n):=by simp
 have hx3:(w.alloc (.cells #[.int .i64 2,.int .u64 n,.string s,.slice a [e0].length c] 53)).cell? ⟨w.heap.size,3,none⟩=some (.slice a [e0].length c):=by simp
 have hR1:=vh.next hR hBl
 have HRk:=k8 (j8 (bk:=E.bk) (wb:=E.wb) (ob:=E.ob) (M:=[]) hBl)
 have HBel:=k8 (fun (y:World) (k:E.rk [] (w.alloc (.cells #[.int .i64 2,.int .u64 n,.string s,.slice a [e0].length c] 53)) y)=>Env.below hk (hB0.trans (hBl.mono hB0.size)) k)
 have HFr:=k8 (fun (y:World) (k:E.rk [] (w.alloc (.cells #[.int .i64 2,.int .u64 n,.string s,.slice a [e0].length c] 53)) y)=>Env.frame (Env.frame hF (j8 hBl)) k)
 obtain ⟨_,_,he,hlc,hll,hr⟩:=hsl
 simp only [Value.slice.injEq] at he
 obtain ⟨rfl,-,rfl⟩:=he
 obtain ⟨xb,xo,rfl,hro⟩:=hr (by simp)
 obtain ⟨e0a,e0c,hc0,hXI0⟩:=vg (hro 0 e0 rfl)
 rw [Nat.zero_mul,Nat.add_zero] at hc0
 have He0:=k8 hc0
 have HXI0:=k8 hXI0
 have HR1:=k8 hR1
 have HX1:=k8 hx1
 have HX2:=k8 hx2
 have HX3:=k8 hx3
 clear hc0 hXI0 hr hro hlc hll hR1 hx1 hx2 hx3 hBl hx
 simp only [List.length_cons,List.length_nil,Nat.zero_add] at *
 obtain ⟨⟨V0,S0⟩,hVS⟩:∃ r,E.ev F vars e0 st=r:=⟨_,rfl⟩
 have hev:E.ev F vars ⟨2,n,s,[e0]⟩ st=(S0.get (km E.secs F.ptrs s) V0,S0):=by
  rw [ev_args _ _ _ _ _ _ _ _ (by decide) (by decide) (by decide),ev_one,hVS];rfl
 rw [hev] at hlen ⊢
 have HL0:Hid ((E.ev F vars e0 st).2.opened.length≤1000000):=by show _≤_;rw [hVS];exact hlen
 have HVS:=k8 hVS
 have HEX0:=k8 H0
 have hss:=Env.arr hk hs
 obtain ⟨nn,hn1,hn2,hn3⟩:=Env.ref hk hss
 have hsm:=hk.fix.small nn (gg hn1)
 have HEl:=k8 (fun (y:World) (k:E.rk [] (w.alloc (.cells #[.int .i64 2,.int .u64 n,.string s,.slice (some ⟨xb,xo,none⟩) 1 c] 53)) y) (hr:E.run S0 y) (hu:U64 V0)=>element_fr hr (HFr.out y k) s hss hn3 (by omega) V0 hu)
 have HWd:=k8 (fun (y:World) (hr:E.run S0 y) (b:Nat) (hb:E.bk[(km E.secs F.ptrs s).row]?=some b)=>Env.word hk hr hss V0 hb)
 generalize km E.secs F.ptrs s=r at *
 clear hev hVS hlen H0 hss hs hn1 hn2 hn3 hsm hR hF hB0 hk
 go_enter Tryz.func54,Tryz.ntmps54
 go_wp2_with fail
 refine yg zi (rkR E.bk E.wb E.ob []) [.is (.pointer (some ⟨F.fb,0,none⟩)),.is (.pointer (some ⟨w.heap.size,2,none⟩)),.is (.string s),.is (.pointer (some ⟨F.fb,0,none⟩)),.is (.pointer (some ⟨w.heap.size,3,none⟩)),.is (.slice (some ⟨xb,xo,none⟩) 1 c),.is (.pointer (some ⟨xb,xo,none⟩)),.is (.agg #[.int .i64 e0.kind,.int .u64 e0.num,.string e0.name,.slice e0a e0.args.length e0c]),.is (.int .u64 V0)] (fun b y=>match b with|true=>E.run S0 y∧U64 V0|false=>E.run st y) 8 (vh.next HR1.out ((wu _ _).drew)) (by kernel_rfl) 9 (by decide) (by decide) (by kernel_rfl) _ rfl ?_ ?_
 ·refine ⟨?_,?_,?_,?_,?_,?_,?_,?_,?_,trivial⟩
  ·refine jz rfl rfl rfl rfl fun x1 y hB hF hD=>?_
   have e0:slot x1 0=.pointer (some ⟨F.fb,0,none⟩):=hF.at 0 rfl
   clear hB hF
   simp only [execOp,ja,e0]
   first|rfl|(go_simp;try rfl)
  ·refine jz rfl rfl rfl rfl fun x1 y hB hF hD=>?_
   have e3:slot x1 3=.pointer (some ⟨w.heap.size,0,none⟩):=hF.at 3 rfl
   clear hB hF
   simp only [execOp,ja,e3]
   first|rfl|(go_simp;try rfl)
  ·refine jz rfl rfl rfl rfl fun x1 y hB hF hD=>?_
   obtain ⟨d0,-⟩:=hD
   have e6:slot x1 6=.pointer (some ⟨w.heap.size,2,none⟩):=d0 rfl
   have hc:y.cell? ⟨w.heap.size,2,none⟩=some (.string s):=HCalm.out.cell hB (by simp) HX2.out
   clear hB hF
   simp only [execOp,ja,e6]
   first|rfl|(go_simp;try rfl)
  ·refine jz rfl rfl rfl rfl fun x1 y hB hF hD=>?_
   have e0:slot x1 0=.pointer (some ⟨F.fb,0,none⟩):=hF.at 0 rfl
   clear hB hF
   simp only [execOp,ja,e0]
   first|rfl|(go_simp;try rfl)
  ·refine jz rfl rfl rfl rfl fun x1 y hB hF hD=>?_
   have e3:slot x1 3=.pointer (some ⟨w.heap.size,0,none⟩):=hF.at 3 rfl
   clear hB hF
   simp only [execOp,ja,e3]
   first|rfl|(go_simp;try rfl)
  ·refine jz rfl rfl rfl rfl fun x1 y hB hF hD=>?_
   obtain ⟨d0,-⟩:=hD
   have e9:slot x1 9=.pointer (some ⟨w.heap.size,3,none⟩):=d0 rfl
   have hc:y.cell? ⟨w.heap.size,3,none⟩=some (.slice (some ⟨xb,xo,none⟩) 1 c):=HCalm.out.cell hB (by simp) HX3.out
   clear hB hF
   simp only [execOp,ja,e9]
   first|rfl|(go_simp;try rfl)
  ·refine jz rfl rfl rfl rfl fun x1 y hB hF hD=>?_
   obtain ⟨d0,-⟩:=hD
   have e10:slot x1 10=.slice (some ⟨xb,xo,none⟩) 1 c:=d0 rfl
   clear hB hF
   simp only [execOp,ja,e10]
   first|rfl|(go_simp;try rfl)
  ·refine jz rfl rfl rfl rfl fun x1 y hB hF hD=>?_
   obtain ⟨d0,-⟩:=hD
   have e11:slot x1 11=.pointer (some ⟨xb,xo,none⟩):=d0 rfl
   have h0:y.cell? ⟨xb,xo,none⟩=some (.int .i64 e0.kind):=jb (HBel.out y hB) He0.out.1
   have h1:y.cell? ⟨xb,xo+1,none⟩=some (.int .u64 e0.num):=jb (HBel.out y hB) He0.out.2.1
   have h2:y.cell? ⟨xb,xo+2,none⟩=some (.string e0.name):=jb (HBel.out y hB) He0.out.2.2.1
   have h3:y.cell? ⟨xb,xo+3,none⟩=some (.slice e0a e0.args.length e0c):=jb (HBel.out y hB) He0.out.2.2.2
   clear hB hF
   simp only [execOp,ja,e11]
   first|rfl|(go_simp;try rfl)
  ·refine stepC_turn (f:=34) rfl rfl rfl fun x1 y hJ hB hF hD=>⟨#[.pointer (some ⟨F.fb,0,none⟩),.agg #[.int .i64 e0.kind,.int .u64 e0.num,.string e0.name,.slice e0a e0.args.length e0c]],?_,?_⟩
   ·obtain ⟨d0,d1,-⟩:=hD
    have e8:slot x1 8=.pointer (some ⟨F.fb,0,none⟩):=d0 rfl
    have e12:slot x1 12=.agg #[.int .i64 e0.kind,.int .u64 e0.num,.string e0.name,.slice e0a e0.args.length e0c]:=d1 rfl
    have g8:=jh e8
    have g12:=jh e12
    clear hB hF e8 e12
    simp only [execOp]
    simp [go_sem,g8,g12]
   ·refine (HEX0.out _ y _ (HBel.out y hB) hJ (HFr.out y hB) HXI0.out HL0.out).mono ?_
    rintro e w' ⟨rfl,hk,hr,hu⟩
    rw [HVS.out] at hr hu
    exact ⟨hk,⟨hr,hu⟩,_,rfl,by rw [HVS.out];rfl⟩
 ·intro x1 y hB hF hP hJ
  obtain ⟨p0,p1,p2,p3,p4,p5,p6,p7,p8,-⟩:=hP
  have hx:=jj hF [(5,.pointer (some ⟨F.fb,0,none⟩)),(6,.pointer (some ⟨w.heap.size,2,none⟩)),(7,.string s),(8,.pointer (some ⟨F.fb,0,none⟩)),(9,.pointer (some ⟨w.heap.size,3,none⟩)),(10,.slice (some ⟨xb,xo,none⟩) 1 c),(11,.pointer (some ⟨xb,xo,none⟩)),(12,.agg #[.int .i64 e0.kind,.int .u64 e0.num,.string e0.name,.slice e0a e0.args.length e0c]),(13,.int .u64 V0)] rfl ⟨p0,p1,p2,p3,p4,p5,p6,p7,p8,trivial⟩
  obtain ⟨hr0,hu0⟩:E.run S0 y∧U64 V0:=hJ
  have HRy:=k8 hr0
  have HEy:=k8 (HEl.out y hB hr0 hu0)
  have HKy:=k8 (HRk.out.trans hB)
  clear hB hF hr0 hu0 p0 p1 p2 p3 p4 p5 p6 p7 p8
  subst hx
  simp only [puts,Act.put,we,wg,wi,wj,wk]
  go_wp2_with fail
  refine HEy.out.mono ?_
  rintro e w1 ⟨rfl,b,rfl,hb⟩
  obtain ⟨q1,q2,q3⟩:=HWd.out w1 HRy.out b hb
  have HQ:=k8 q3
  have hbl:=k9 w1 _ q1
  clear hb HEy q2 q3
  go_wp2_with fail
  go_ret
  exact ⟨rfl,HKy.out,HRy.out,HQ.out⟩
end
section
open Go.RowKit
theorem op_fr {E:Env} {F:Fr} {vars:Vars} (hk:E.ok F) {e0:Expr} {e1:Expr} (n:Int) (s:ByteArray) (H0:ExAt E F vars e0) (H1:ExAt E F vars e1) (hn:(xz n).isSome=true):∀ (v:Value) (w:World) (st:St),Below E.w0.heap.size E.w0 w→E.run st w→E.fr F vars w→zl E.w0 ⟨3,n,s,[e0,e1]⟩ v→(E.ev F vars ⟨3,n,s,[e0,e1]⟩ st).2.opened.length≤1000000 →
  Calls Tryz.prog 55 #[.pointer (some ⟨F.fb,0,none⟩),v] w (ExRet E w (E.ev F vars ⟨3,n,s,[e0,e1]⟩ st)):=by
 intro v w st hB0 hR hF hx hlen
 obtain ⟨a,c,rfl,hsl⟩:=qu hx
 simp only at hsl ⊢
 have hBl:=(wu w.heap.size w).alloc (wo _) (.cells #[.int .i64 3,.int .u64 n,.string s,.slice a [e0,e1].length c] 53)
 have HCalm:=k8 (Env.box hk hR (cs:=#[.int .i64 3,.int .u64 n,.string s,.slice a [e0,e1].length c]) (t:=53) (by decide))
 have hx2:(w.alloc (.cells #[.int .i64 3,.int .u64 n,.string s,.slice a [e0,e1].length c] 53)).cell? ⟨w.heap.size,2,none⟩=some (.string s):=by simp
 have hx1:(w.alloc (.cells #[.int .i64 3,.int .u64 n,.string s,.slice a [e0,e1].length c] 53)).cell? ⟨w.heap.size,1,none⟩=some (.int .u64 n):=by simp
 have hx3:(w.alloc (.cells #[.int .i64 3,.int .u64 n,.string s,.slice a [e0,e1].length c] 53)).cell? ⟨w.heap.size,3,none⟩=some (.slice a [e0,e1].length c):=by simp
 have hR1:=vh.next hR hBl
 have HRk:=k8 (j8 (bk:=E.bk) (wb:=E.wb) (ob:=E.ob) (M:=[]) hBl)
 have HBel:=k8 (fun (y:World) (k:E.rk [] (w.alloc (.cells #[.int .i64 3,.int .u64 n,.string s,.slice a [e0,e1].length c] 53)) y)=>Env.below hk (hB0.trans (hBl.mono hB0.size)) k)
 have HFr:=k8 (fun (y:World) (k:E.rk [] (w.alloc (.cells #[.int .i64 3,.int .u64 n,.string s,.slice a [e0,e1].length c] 53)) y)=>Env.frame (Env.frame hF (j8 hBl)) k)
 obtain ⟨_,_,he,hlc,hll,hr⟩:=hsl
 simp only [Value.slice.injEq] at he
 obtain ⟨rfl,-,rfl⟩:=he
 obtain ⟨xb,xo,rfl,hro⟩:=hr (by simp)
 obtain ⟨e0a,e0c,hc0,hXI0⟩:=vg (hro 0 e0 rfl)
 obtain ⟨e1a,e1c,hc1,hXI1⟩:=vg (hro 1 e1 rfl)
 rw [Nat.zero_mul,Nat.add_zero] at hc0
 have He0:=k8 hc0
 have HXI0:=k8 hXI0
 have He1:=k8 hc1
 have HXI1:=k8 hXI1
 have HR1:=k8 hR1
 have HX1:=k8 hx1
 have HX2:=k8 hx2
 have HX3:=k8 hx3
 clear hc0 hXI0 hc1 hXI1 hr hro hlc hll hR1 hx1 hx2 hx3 hBl hx
 simp only [List.length_cons,List.length_nil,Nat.zero_add] at *
 obtain ⟨⟨V0,S0⟩,hVS0⟩:∃ r,E.ev F vars e0 st=r:=⟨_,rfl⟩
 obtain ⟨⟨V1,S1⟩,hVS1⟩:∃ r,E.ev F vars e1 S0=r:=⟨_,rfl⟩
 have hev:E.ev F vars ⟨3,n,s,[e0,e1]⟩ st=(aluF n V0 V1,S1):=by
  rw [ev_args _ _ _ _ _ _ _ _ (by decide) (by decide) (by decide),ev_two,hVS0,hVS1];rfl
 rw [hev] at hlen ⊢
 have hm1:=ev_mono E F vars e1 S0
 rw [hVS1] at hm1
 have HL0:Hid ((E.ev F vars e0 st).2.opened.length≤1000000):=by show _≤_;rw [hVS0];exact wx hm1 hlen
 have HL1:Hid ((E.ev F vars e1 S0).2.opened.length≤1000000):=by show _≤_;rw [hVS1];exact hlen
 have hnr:0≤n∧n≤15:=by rcases opWord_cases hn with h|h|h|h|h|h|h|h|h|h|h|h|h<;>omega
 have HWn:Hid (wrap64 n=n):=by show _=_;unfold wrap64;omega
 have HVS:=k8 hVS0
 have HVS1:=k8 hVS1
 have HEX0:=k8 H0
 have HEX1:=k8 H1
 have HTw:=k8 (fun (ha:U64 V0) (hb:U64 V1) (w:World)=>two_any n V0 V1 hn ha hb w)
 have HRg:=k8 (fun (ha:U64 V0) (hb:U64 V1)=>aluF_range (n:=n) ha hb)
 generalize aluF n V0 V1=r at *
 have HK0:=k8 (RK.refl E.bk E.wb E.ob [] (w.alloc (.cells #[.int .i64 3,.int .u64 n,.string s,.slice (some ⟨xb,xo,none⟩) 2 c] 53)))
 obtain ⟨q00,q01,q02,q03⟩:=He0.out
 have q00:=jb hB0 q00
 have q01:=jb hB0 q01
 have q02:=jb hB0 q02
 have q03:=jb hB0 q03
 have qbl:=k9 w _ q00
 clear hev hVS0 hVS1 hlen hm1 H0 H1 hR hF hB0 hk hn hnr
 go_enter Tryz.func55,Tryz.ntmps55
 go_wp2_with fail
 refine (HEX0.out _ _ _ (HBel.out _ HK0.out) HR1.out (HFr.out _ HK0.out) HXI0.out HL0.out).mono ?_
 rintro e' w1 ⟨rfl,hkn,hrn,hun⟩
 rw [HVS.out] at hrn hun ⊢
 have HK1:=k8 (HK0.out.trans hkn)
 have HR_w1:=k8 hrn
 have HU_V0:=k8 hun
 clear hkn hrn hun
 simp only
 clear q00 q01 q02 q03 qbl
 go_wp2_with fail
 refine yg zi (rkR E.bk E.wb E.ob []) [.is (.pointer (some ⟨w.heap.size,1,none⟩)),.is (.int .u64 n),.is (.int .i64 n),.is (.int .u64 V0),.is (.pointer (some ⟨F.fb,0,none⟩)),.is (.pointer (some ⟨w.heap.size,3,none⟩)),.is (.slice (some ⟨xb,xo,none⟩) 2 c),.is (.pointer (some ⟨xb,xo+4,none⟩)),.is (.agg #[.int .i64 e1.kind,.int .u64 e1.num,.string e1.name,.slice e1a e1.args.length e1c]),.val (fun v=>v=.int .u64 V1∧U64 V1),.is (.tuple #[.int .u64 r,.bool true]),.is (.tuple #[.int .u64 r,.bool true]),.is (.int .u64 r),.is (.bool true),.is (.int .u64 r)] (fun b y=>match b with|true=>E.run S1 y∧U64 V1|false=>E.run S0 y) 9 (vh.next HR_w1.out ((wu _ _).drew)) (by kernel_rfl) 15 (by decide) (by decide) (by kernel_rfl) _ rfl ?_ ?_
 ·refine ⟨?_,?_,?_,?_,?_,?_,?_,?_,?_,?_,?_,?_,?_,?_,?_,trivial⟩
  ·refine jz rfl rfl rfl rfl fun x1 y hB hF hD=>?_
   have e3:slot x1 3=.pointer (some ⟨w.heap.size,0,none⟩):=hF.at 3 rfl
   clear hB hF
   simp only [execOp,ja,e3]
   first|rfl|(go_simp;try rfl)
  ·refine jz rfl rfl rfl rfl fun x1 y hB hF hD=>?_
   obtain ⟨d0,-⟩:=hD
   have e15:slot x1 15=.pointer (some ⟨w.heap.size,1,none⟩):=d0 rfl
   have hc:y.cell? ⟨w.heap.size,1,none⟩=some (.int .u64 n):=HCalm.out.cell (HK1.out.trans hB) (by simp) HX1.out
   clear hB hF
   simp only [execOp,ja,e15]
   first|rfl|(go_simp;try rfl)
  ·refine jz rfl rfl rfl rfl fun x1 y hB hF hD=>?_
   obtain ⟨d0,-⟩:=hD
   have e16:slot x1 16=.int .u64 n:=d0 rfl
   have hw:wrap64 n=n:=HWn.out
   clear hB hF
   simp only [execOp,ja,e16]
   go_simp
   first|done|(rw [IntKind.wrap_i64];unfold wrap64 at hw;exact hw)
  ·refine jz rfl rfl rfl rfl fun x1 y hB hF hD=>?_
   have e5:slot x1 5=.int .u64 V0:=hF.at 5 rfl
   clear hB hF
   simp only [execOp,ja,e5]
   first|rfl|(go_simp;try rfl)
  ·refine jz rfl rfl rfl rfl fun x1 y hB hF hD=>?_
   have e0:slot x1 0=.pointer (some ⟨F.fb,0,none⟩):=hF.at 0 rfl
   clear hB hF
   simp only [execOp,ja,e0]
   first|rfl|(go_simp;try rfl)
  ·refine jz rfl rfl rfl rfl fun x1 y hB hF hD=>?_
   have e3:slot x1 3=.pointer (some ⟨w.heap.size,0,none⟩):=hF.at 3 rfl
   clear hB hF
   simp only [execOp,ja,e3]
   first|rfl|(go_simp;try rfl)
  ·refine jz rfl rfl rfl rfl fun x1 y hB hF hD=>?_
   obtain ⟨d0,-⟩:=hD
   have e20:slot x1 20=.pointer (some ⟨w.heap.size,3,none⟩):=d0 rfl
   have hc:y.cell? ⟨w.heap.size,3,none⟩=some (.slice (some ⟨xb,xo,none⟩) 2 c):=HCalm.out.cell (HK1.out.trans hB) (by simp) HX3.out
   clear hB hF
   simp only [execOp,ja,e20]
   first|rfl|(go_simp;try rfl)
  ·refine jz rfl rfl rfl rfl fun x1 y hB hF hD=>?_
   obtain ⟨d0,-⟩:=hD
   have e21:slot x1 21=.slice (some ⟨xb,xo,none⟩) 2 c:=d0 rfl
   clear hB hF
   simp only [execOp,ja,e21]
   first|rfl|(go_simp;try rfl)
  ·refine jz rfl rfl rfl rfl fun x1 y hB hF hD=>?_
   obtain ⟨d0,-⟩:=hD
   have e22:slot x1 22=.pointer (some ⟨xb,xo+4,none⟩):=d0 rfl
   have h0:y.cell? ⟨xb,xo+4,none⟩=some (.int .i64 e1.kind):=jb (HBel.out y (HK1.out.trans hB)) He1.out.1
   have h1:y.cell? ⟨xb,xo+5,none⟩=some (.int .u64 e1.num):=jb (HBel.out y (HK1.out.trans hB)) He1.out.2.1
   have h2:y.cell? ⟨xb,xo+6,none⟩=some (.string e1.name):=jb (HBel.out y (HK1.out.trans hB)) He1.out.2.2.1
   have h3:y.cell? ⟨xb,xo+7,none⟩=some (.slice e1a e1.args.length e1c):=jb (HBel.out y (HK1.out.trans hB)) He1.out.2.2.2
   clear hB hF
   simp only [execOp,ja,e22]
   first|rfl|(go_simp;try rfl)
  ·refine stepC_turn (f:=34) rfl rfl rfl fun x1 y hJ hB hF hD=>⟨#[.pointer (some ⟨F.fb,0,none⟩),.agg #[.int .i64 e1.kind,.int .u64 e1.num,.string e1.name,.slice e1a e1.args.length e1c]],?_,?_⟩
   ·obtain ⟨d0,d1,-⟩:=hD
    have e19:slot x1 19=.pointer (some ⟨F.fb,0,none⟩):=d0 rfl
    have e23:slot x1 23=.agg #[.int .i64 e1.kind,.int .u64 e1.num,.string e1.name,.slice e1a e1.args.length e1c]:=d1 rfl
    have g19:=jh e19
    have g23:=jh e23
    clear hB hF e19 e23
    simp only [execOp]
    simp [go_sem,g19,g23]
   ·refine (HEX1.out _ y _ (HBel.out y (HK1.out.trans hB)) hJ (HFr.out y (HK1.out.trans hB)) HXI1.out HL1.out).mono ?_
    rintro e w' ⟨rfl,hk,hr,hu⟩
    rw [HVS1.out] at hr hu
    exact ⟨hk,⟨hr,hu⟩,_,rfl,by rw [HVS1.out];exact ⟨rfl,hu⟩⟩
  ·refine stepC_call (f:=92) rfl rfl rfl fun x1 y b hJ hB hF hD=>⟨#[.int .i64 n,.int .u64 V0,.int .u64 V1],?_,?_⟩
   ·obtain ⟨d0,d1,d2,-⟩:=hD
    have e17:slot x1 17=.int .i64 n:=d0 rfl
    have e18:slot x1 18=.int .u64 V0:=d1 rfl
    have e24:slot x1 24=.int .u64 V1:=(d2 rfl).1
    have g17:=jh e17
    have g18:=jh e18
    have g24:=jh e24
    clear hB hF e17 e18 e24
    simp only [execOp]
    simp [go_sem,g17,g18,g24]
   ·obtain ⟨d0,d1,d2,-⟩:=hD
    refine (HTw.out HU_V0.out (d2 rfl).2 y).mono ?_
    rintro e w' ⟨rfl,hb⟩
    refine ⟨j8 hb,?_,_,rfl,rfl⟩
    cases b with
    | true=>exact ⟨vh.next hJ.1 hb,hJ.2⟩
    | false=>exact vh.next hJ hb
  ·refine jz rfl rfl rfl rfl fun x1 y hB hF hD=>?_
   obtain ⟨d0,-⟩:=hD
   have e25:slot x1 25=.tuple #[.int .u64 r,.bool true]:=d0 rfl
   clear hB hF
   simp only [execOp,ja,e25]
   first|rfl|(go_simp;try rfl)
  ·refine jz rfl rfl rfl rfl fun x1 y hB hF hD=>?_
   obtain ⟨d0,-⟩:=hD
   have e14:slot x1 14=.tuple #[.int .u64 r,.bool true]:=d0 rfl
   clear hB hF
   simp only [execOp,ja,e14]
   first|rfl|(go_simp;try rfl)
  ·refine jz rfl rfl rfl rfl fun x1 y hB hF hD=>?_
   obtain ⟨d0,-⟩:=hD
   have e14:slot x1 14=.tuple #[.int .u64 r,.bool true]:=d0 rfl
   clear hB hF
   simp only [execOp,ja,e14]
   first|rfl|(go_simp;try rfl)
  ·refine jz rfl rfl rfl rfl fun x1 y hB hF hD=>?_
   obtain ⟨d0,-⟩:=hD
   have e26:slot x1 26=.int .u64 r:=d0 rfl
   clear hB hF
   simp only [execOp,ja,e26]
   first|rfl|(go_simp;try rfl)
 ·intro x1 y hB hF hP hJ
  obtain ⟨p0,p1,p2,p3,p4,p5,p6,p7,p8,p9,p10,p11,p12,p13,p14,-⟩:=hP
  have hx:=jj hF [(15,.pointer (some ⟨w.heap.size,1,none⟩)),(16,.int .u64 n),(17,.int .i64 n),(18,.int .u64 V0),(19,.pointer (some ⟨F.fb,0,none⟩)),(20,.pointer (some ⟨w.heap.size,3,none⟩)),(21,.slice (some ⟨xb,xo,none⟩) 2 c),(22,.pointer (some ⟨xb,xo+4,none⟩)),(23,.agg #[.int .i64 e1.kind,.int .u64 e1.num,.string e1.name,.slice e1a e1.args.length e1c]),(24,.int .u64 V1),(25,.tuple #[.int .u64 r,.bool true]),(14,.tuple #[.int .u64 r,.bool true]),(26,.int .u64 r),(27,.bool true),(6,.int .u64 r)] rfl ⟨p0,p1,p2,p3,p4,p5,p6,p7,p8,p9.1,p10,p11,p12,p13,p14,trivial⟩
  obtain ⟨hr0,hu0⟩:E.run S1 y∧U64 V1:=hJ
  have HRy:=k8 hr0
  have HQ:=k8 (HRg.out HU_V0.out hu0)
  have HKy:=k8 (HRk.out.trans (HK1.out.trans hB))
  clear hB hF hr0 hu0 p0 p1 p2 p3 p4 p5 p6 p7 p8 p9 p10 p11 p12 p13 p14
  subst hx
  simp only [puts,Act.put,we,wg,wi,wj,wk]
  go_wp2
  go_ret
  exact ⟨rfl,HKy.out,HRy.out,HQ.out⟩
theorem sel_fr {E:Env} {F:Fr} {vars:Vars} (hk:E.ok F) {e0:Expr} {e1:Expr} {e2:Expr} (n:Int) (s:ByteArray) (H0:ExAt E F vars e0) (H1:ExAt E F vars e1) (H2:ExAt E F vars e2) :∀ (v:Value) (w:World) (st:St),Below E.w0.heap.size E.w0 w→E.run st w→E.fr F vars w→zl E.w0 ⟨4,n,s,[e0,e1,e2]⟩ v→(E.ev F vars ⟨4,n,s,[e0,e1,e2]⟩ st).2.opened.length≤1000000 →
  Calls Tryz.prog 56 #[.pointer (some ⟨F.fb,0,none⟩),v] w (ExRet E w (E.ev F vars ⟨4,n,s,[e0,e1,e2]⟩ st)):=by
 intro v w st hB0 hR hF hx hlen
 obtain ⟨a,c,rfl,hsl⟩:=qu hx
 simp only at hsl ⊢
 have hBl:=(wu w.heap.size w).alloc (wo _) (.cells #[.int .i64 4,.int .u64 n,.string s,.slice a [e0,e1,e2].length c] 53)
 have HCalm:=k8 (Env.box hk hR (cs:=#[.int .i64 4,.int .u64 n,.string s,.slice a [e0,e1,e2].length c]) (t:=53) (by decide))
 have hx2:(w.alloc (.cells #[.int .i64 4,.int .u64 n,.string s,.slice a [e0,e1,e2].length c] 53)).cell? ⟨w.heap.size,2,none⟩=some (.string s):=by simp
 have hx1:(w.alloc (.cells #[.int .i64 4,.int .u64 n,.string s,.slice a [e0,e1,e2].length c] 53)).cell? ⟨w.heap.size,1,none⟩=some (.int .u64 n):=by simp
 have hx3:(w.alloc (.cells #[.int .i64 4,.int .u64 n,.string s,.slice a [e0,e1,e2].length c] 53)).cell? ⟨w.heap.size,3,none⟩=some (.slice a [e0,e1,e2].length c):=by simp
 have hR1:=vh.next hR hBl
 have HRk:=k8 (j8 (bk:=E.bk) (wb:=E.wb) (ob:=E.ob) (M:=[]) hBl)
 have HBel:=k8 (fun (y:World) (k:E.rk [] (w.alloc (.cells #[.int .i64 4,.int .u64 n,.string s,.slice a [e0,e1,e2].length c] 53)) y)=>Env.below hk (hB0.trans (hBl.mono hB0.size)) k)
 have HFr:=k8 (fun (y:World) (k:E.rk [] (w.alloc (.cells #[.int .i64 4,.int .u64 n,.string s,.slice a [e0,e1,e2].length c] 53)) y)=>Env.frame (Env.frame hF (j8 hBl)) k)
 obtain ⟨_,_,he,hlc,hll,hr⟩:=hsl
 simp only [Value.slice.injEq] at he
 obtain ⟨rfl,-,rfl⟩:=he
 obtain ⟨xb,xo,rfl,hro⟩:=hr (by simp)
 obtain ⟨e0a,e0c,hc0,hXI0⟩:=vg (hro 0 e0 rfl)
 obtain ⟨e1a,e1c,hc1,hXI1⟩:=vg (hro 1 e1 rfl)
 obtain ⟨e2a,e2c,hc2,hXI2⟩:=vg (hro 2 e2 rfl)
 rw [Nat.zero_mul,Nat.add_zero] at hc0
 have He0:=k8 hc0
 have HXI0:=k8 hXI0
 have He1:=k8 hc1
 have HXI1:=k8 hXI1
 have He2:=k8 hc2
 have HXI2:=k8 hXI2
 have HR1:=k8 hR1
 have HX1:=k8 hx1
 have HX2:=k8 hx2
 have HX3:=k8 hx3
 clear hc0 hXI0 hc1 hXI1 hc2 hXI2 hr hro hlc hll hR1 hx1 hx2 hx3 hBl hx
 simp only [List.length_cons,List.length_nil,Nat.zero_add] at *
 obtain ⟨⟨V0,S0⟩,hVS0⟩:∃ r,E.ev F vars e0 st=r:=⟨_,rfl⟩
 obtain ⟨⟨V1,S1⟩,hVS1⟩:∃ r,E.ev F vars e1 S0=r:=⟨_,rfl⟩
 obtain ⟨⟨V2,S2⟩,hVS2⟩:∃ r,E.ev F vars e2 S1=r:=⟨_,rfl⟩
 have hev:E.ev F vars ⟨4,n,s,[e0,e1,e2]⟩ st=(if V0≠0 then V1 else V2,S2):=by
  rw [ev_args _ _ _ _ _ _ _ _ (by decide) (by decide) (by decide),ev_three,hVS0,hVS1,hVS2];rfl
 rw [hev] at hlen ⊢
 have hm1:=ev_mono E F vars e1 S0
 rw [hVS1] at hm1
 have hm2:=ev_mono E F vars e2 S1
 rw [hVS2] at hm2
 have HL0:Hid ((E.ev F vars e0 st).2.opened.length≤1000000):=by show _≤_;rw [hVS0];exact wx hm1 (wx hm2 hlen)
 have HL1:Hid ((E.ev F vars e1 S0).2.opened.length≤1000000):=by show _≤_;rw [hVS1];exact wx hm2 hlen
 have HL2:Hid ((E.ev F vars e2 S1).2.opened.length≤1000000):=by show _≤_;rw [hVS2];exact hlen
 have HVS0:=k8 hVS0
 have HVS1:=k8 hVS1
 have HVS2:=k8 hVS2
 have HEX0:=k8 H0
 have HEX1:=k8 H1
 have HEX2:=k8 H2
 obtain ⟨r,hr⟩:∃ r,r=if V0≠0 then V1 else V2:=⟨_,rfl⟩
 rw [← hr]
 have HRr:=k8 hr
 have HK0:=k8 (RK.refl E.bk E.wb E.ob [] (w.alloc (.cells #[.int .i64 4,.int .u64 n,.string s,.slice (some ⟨xb,xo,none⟩) 3 c] 53)))
 obtain ⟨q00,q01,q02,q03⟩:=He0.out
 have q00:=jb hB0 q00
 have q01:=jb hB0 q01
 have q02:=jb hB0 q02
 have q03:=jb hB0 q03
 have qbl:=k9 w _ q00
 clear hev hVS0 hVS1 hVS2 hlen hm1 hm2 H0 H1 H2 hR hF hB0 hk hr
 go_enter Tryz.func56,Tryz.ntmps56
 go_wp2_with fail
 refine (HEX0.out _ _ _ (HBel.out _ HK0.out) HR1.out (HFr.out _ HK0.out) HXI0.out HL0.out).mono ?_
 rintro e' w1 ⟨rfl,hkn,hrn,hun⟩
 rw [HVS0.out] at hrn hun ⊢
 have HK1:=k8 (HK0.out.trans hkn)
 have HR_w1:=k8 hrn
 have HU_V0:=k8 hun
 clear hkn hrn hun
 simp only
 clear q00 q01 q02 q03 qbl
 obtain ⟨q10,q11,q12,q13⟩:=He1.out
 have hbw:=HBel.out w1 HK1.out
 have q10:=jb hbw q10
 have q11:=jb hbw q11
 have q12:=jb hbw q12
 have q13:=jb hbw q13
 have qx3:=HCalm.out.cell HK1.out (by simp) HX3.out
 clear hbw
 go_wp2_with fail
 refine (HEX1.out _ _ _ (HBel.out _ HK1.out) HR_w1.out (HFr.out _ HK1.out) HXI1.out HL1.out).mono ?_
 rintro e' w2 ⟨rfl,hkn,hrn,hun⟩
 rw [HVS1.out] at hrn hun ⊢
 have HK2:=k8 (HK1.out.trans hkn)
 have HR_w2:=k8 hrn
 have HU_V1:=k8 hun
 clear hkn hrn hun
 simp only
 clear q10 q11 q12 q13 qx3
 obtain ⟨q20,q21,q22,q23⟩:=He2.out
 have hbw:=HBel.out w2 HK2.out
 have q20:=jb hbw q20
 have q21:=jb hbw q21
 have q22:=jb hbw q22
 have q23:=jb hbw q23
 have qx3:=HCalm.out.cell HK2.out (by simp) HX3.out
 clear hbw
 go_wp2_with fail
 refine (HEX2.out _ _ _ (HBel.out _ HK2.out) HR_w2.out (HFr.out _ HK2.out) HXI2.out HL2.out).mono ?_
 rintro e' w3 ⟨rfl,hkn,hrn,hun⟩
 rw [HVS2.out] at hrn hun ⊢
 have HK3:=k8 (HK2.out.trans hkn)
 have HR_w3:=k8 hrn
 have HU_V2:=k8 hun
 clear hkn hrn hun
 simp only
 clear q20 q21 q22 q23 qx3
 have HKe:=k8 (HRk.out.trans HK3.out)
 by_cases hv:V0=0
 ·have tv:(V0 != 0)=false:=by simp [hv]
  have HRv:Hid (r=V2):=by show _=_;rw [HRr.out];simp [hv]
  clear hv HRr
  go_wp2
  go_ret
  exact ⟨by rw [HRv.out];rfl,HKe.out,HR_w3.out,by rw [HRv.out];exact HU_V2.out⟩
 ·have tv:(V0 != 0)=true:=by simpa using hv
  have HRv:Hid (r=V1):=by show _=_;rw [HRr.out];simp [hv]
  clear hv HRr
  go_wp2
  go_ret
  exact ⟨by rw [HRv.out];rfl,HKe.out,HR_w3.out,by rw [HRv.out];exact HU_V1.out⟩
end
section
open Go.RowKit
def StepV (P:Program) (ops fo:Array Oper) (Q:Exit→Act→World→Prop) (T:World→World→Prop) (w₀:World) (a₀:Act) (Post:Nat→Value→World→Prop) (J:Option Value→World→Prop) (c i:Nat) (o:Oper):Prop:=
 ∀ (a:Act) (w:World) (b:Option Value),J b w→(i=c→b=none)→T w₀ w→Frm fo a₀ a→(∀ (j:Nat) (x:Oper),ops[j]?=some x→(∃ e∈o.after,e.on=j∧Region.binds .any e=true)→Post j (left a x) w) →
  if Region.wanted o (yielded ops a.tmps) then o.wp P a w (fun a' w'=>∃ v,a'=a.put o.dst v∧T w w'∧Post i (if o.dst=none then undef else v) w'∧J (if i=c then some (if o.dst=none then undef else v) else b) w') Q else Post i undef w∧J (if i=c then some undef else b) w
theorem wp_region_value {P:Program} {ops:Array Oper} {Q:Exit→Act→World→Prop} {id:Nat} {a₀:Act} {w:World} (hm:P.follows .mixedOrders=true) (T:World→World→Prop) (hrefl:∀ x,T x x) (htrans:∀ x y z,T x y→T y z→T x z) (hdrew:T w w.drew)
  (Post:Nat→Value→World→Prop) (hmono:∀ i v x y,Post i v x→T x y→Post i v y)
  (J:Option Value→World→Prop) (c:Nat) (hJ:J none w.drew)
  (fit:qz ops a₀.tmps.size=true) (m:Nat) (hms:m<ops.size) (hneeds:vp ops m=true)
  (step:∀ (i:Nat) (o:Oper),i<m→ops[i]?=some o→StepV P ops (ops.toList.take m).toArray Q T w a₀ Post J c i o)
  (tail:∀ (a:Act) (w':World),T w w'→Frm (ops.toList.take m).toArray a₀ a→(∀ (i:Nat) (x:Oper),i<m→ops[i]?=some x→Post i (left a x) w')→J (if c<m then some (left a (ops.getD c default)) else none) w'→wpList P ops Q (ops.toList.drop m) a w') :
  (Code.region id ops true).wp P Q a₀ w:=by
 have F:=fit_of fit
 have hfo:∀ (i:Nat) (x:Oper),i<m→ops[i]?=some x→(ops.toList.take m).toArray[i]?=some x:=by
  intro i x hne hi
  have:=(wl.1 hi).1
  rw [List.getElem?_toArray,List.getElem?_take,if_pos (by omega)]
  simpa using hi
 refine wp_region_any hm ?_
 have key:∀ (fuel:Nat) (listed:Array Bool) (a:Act) (x:World),listed.size=ops.size→listed.toList.count false≤fuel→ops.size - m≤fuel→T w x→J (if listed.getD c false=true then some (left a (ops.getD c default)) else none) x→Frm (ops.toList.take m).toArray a₀ a→(∀ i,m≤i→i<ops.size→listed[i]?=some false) →
   (∀ (i:Nat) (o:Oper),ops[i]?=some o→listed[i]?=some true→∀ e∈o.after,Region.binds .any e=true→listed[e.on]?=some true) →
   (∀ (i:Nat) (o:Oper),ops[i]?=some o→listed[i]?=some true→Post i (left a o) x)→wpAny P .any ops Q fuel listed a x:=by
  intro fuel
  induction fuel with
  | zero=>intro listed a x hsz hc hfu;omega
  | succ fuel ih=>
   intro listed a x hsz hc hfu hT hJx hF hmf hcl hP
   by_cases hall:∀ i,i<m→listed[i]?=some true
   ·exact wpAny_rest F.on m hneeds (fuel+1) m listed a x (wo _) (by omega) (by omega) hsz hall hmf (tail a x hT hF (fun i y hi hy=>hP i y hy (hall i hi)) (by
     have hcl:listed.getD c false=decide (c<m):=by
      rw [wn]
      by_cases hcm:c<m
      ·rw [hall c hcm];simp [hcm]
      ·by_cases hcs:c<ops.size
       ·rw [hmf c (by omega) hcs];simp [hcm]
       ·rw [Array.getElem?_eq_none (by omega)];simp [hcm]
     rw [hcl] at hJx
     by_cases hcm:c<m
     ·rw [decide_eq_true hcm,if_pos rfl] at hJx;rw [if_pos hcm];exact hJx
     ·rw [decide_eq_false hcm,if_neg (by decide)] at hJx;rw [if_neg hcm];exact hJx))
   have hready:∀ i,i<ops.size→listed[i]?=some false→(∀ j,j<i→listed[j]?=some true)→i∈Region.ready .any ops listed:=by
    intro i hi hf hall
    simp only [Region.ready,List.mem_filter,List.mem_range]
    refine ⟨hi,?_⟩
    obtain ⟨o,ho⟩:∃ o,ops[i]?=some o:=⟨_,wm hi⟩
    simp only [wn,hf,ho,Option.map_some,Option.getD_some,Bool.not_false,Bool.true_and]
    rw [Array.all_eq_true_iff_forall_mem]
    intro e he
    cases hbd:Region.binds .any e with
    | false=>rfl
    | true=>
     have:=hall e.on (F.on i o e ho he hbd)
     simp [this]
   refine ⟨fun hr=>?_,fun i hi=>?_⟩
   ·exfalso
    refine hall fun i=>?_
    induction i using Nat.strongRecOn with
    | _ i ihi=>
     intro hi
     have hlt:i<listed.size:=by omega
     cases hb:listed[i] with
     | true=>rw [wm hlt,hb]
     | false=>
      have:=hready i (by omega) (by rw [wm hlt,hb]) (fun j hj=>ihi j hj (by omega))
      rw [hr] at this;cases this
   ·simp only [Region.ready,List.mem_filter,List.mem_range] at hi
    obtain ⟨hilt,hi2⟩:=hi
    obtain ⟨o,ho⟩:∃ o,ops[i]?=some o:=⟨_,wm hilt⟩
    have hil:i<listed.size:=by omega
    simp only [wn,wm hil,ho,Option.map_some,Option.getD_some,Bool.and_eq_true,Bool.not_eq_true',Array.all_eq_true_iff_forall_mem] at hi2
    obtain ⟨hib,hia⟩:=hi2
    have hdep:∀ e∈o.after,Region.binds .any e=true→listed[e.on]?=some true:=by
     intro e he hbd
     have h5:=hia e he
     have hlt:e.on<listed.size:=by have:=F.on i o e ho he hbd;omega
     rw [wm hlt] at h5 ⊢
     simpa [hbd] using h5
    have him:i<m:=by
     rcases Nat.lt_or_ge i m with h|h
     ·exact h
     ·exfalso
      refine hall fun k hk=>?_
      have hcl':∀ (k:Nat) (y:Oper),ops[k]?=some y→(k=i∨listed[k]?=some true)→∀ e∈y.after,Region.binds .any e=true→listed[e.on]?=some true:=by
       intro k y hk hor
       rcases hor with rfl|hor
       ·obtain rfl:y=o:=by rw [ho] at hk;exact (Option.some.inj hk).symm
        exact hdep
       ·exact hcl k y hk hor
      have hmem:=y6 hcl' 12 [i] (fun k hk=>.inl (wy.1 hk))
      simp only [vp,List.all_eq_true,List.mem_range,Bool.or_eq_true,decide_eq_true_eq,List.contains_iff_mem] at hneeds
      have h6:=((hneeds i hilt).resolve_left (by omega)) k (by omega)
      exact (hmem k h6).resolve_left (by omega)
    have hst:=step i o him ho a x _ hJx (fun e=>by subst e;rw [wn,wm hil,hib];rfl) hT hF (fun j y hj he=>hP j y hj (by
     obtain ⟨e,he1,he2,he3⟩:=he
     subst he2
     exact hdep e he1 he3))
    have hcount:(listed.setIfInBounds i true).toList.count false≤fuel:=by
     have:=count_set listed.toList i (by simp [hil,hib])
     simp only [Array.toList_setIfInBounds]
     omega
    have hfu2:ops.size - m≤fuel:=by
     have h1:(listed.setIfInBounds i true).toList.drop m=List.replicate (ops.size - m) false:=by
      apply List.ext_getElem?
      intro k
      rw [List.getElem?_drop,List.getElem?_replicate]
      by_cases hk:k<ops.size - m
      ·rw [if_pos hk]
       have:=hmf (m+k) (by omega) (by omega)
       rw [Array.getElem?_toList,Array.getElem?_setIfInBounds_ne (by omega)]
       exact this
      ·rw [if_neg hk]
       apply List.getElem?_eq_none
       simp [hsz];omega
     have h2:=List.take_append_drop m (listed.setIfInBounds i true).toList
     have h3:((listed.setIfInBounds i true).toList.take m++(listed.setIfInBounds i true).toList.drop m).count false=(listed.setIfInBounds i true).toList.count false:=by rw [h2]
     rw [List.count_append,h1,List.count_replicate] at h3
     simp at h3
     simp only [Array.toList_setIfInBounds] at hcount
     omega
    have hnew:∀ (v:Value) (x':World),T x x'→Post i (if o.dst=none then undef else v) x'→J (if i=c then some (if o.dst=none then undef else v) else (if listed.getD c false=true then some (left a (ops.getD c default)) else none)) x'→wpAny P .any ops Q fuel (listed.setIfInBounds i true) (a.put o.dst v) x':=by
     intro v x' hT' hp hJ'
     refine ih _ _ _ (by simp [hsz]) hcount hfu2 (htrans _ _ _ hT hT') (by
      by_cases hic:i=c
      ·subst hic
       have hs:(listed.setIfInBounds i true).getD i false=true:=by
        rw [wn];simp [hil]
       rw [hs,if_pos rfl]
       rw [if_pos rfl] at hJ'
       have hl:left (a.put o.dst v) (ops.getD i default)=if o.dst=none then undef else v:=by
        have e1:ops.getD i default=o:=by rw [wn,ho];rfl
        rw [e1]
        cases hd:o.dst with
        | none=>simp [left,hd]
        | some d=>
         have hlt:=F.lt i o d ho hd
         simp only [left,hd]
         rw [qp _ _ _ (by rw [hF.size];exact hlt)]
         simp
       rw [hl]
       exact hJ'
      ·have hs:(listed.setIfInBounds i true).getD c false=listed.getD c false:=by
        rw [wn,wn,Array.getElem?_setIfInBounds_ne hic]
       rw [hs]
       rw [if_neg hic] at hJ'
       have hl:left (a.put o.dst v) (ops.getD c default)=left a (ops.getD c default):=by
        cases hoc:ops[c]? with
        | none=>
         have e1:ops.getD c default=default:=by rw [wn,hoc];rfl
         rw [e1]
         rfl
        | some oc=>
         have e1:ops.getD c default=oc:=by rw [wn,hoc];rfl
         rw [e1]
         unfold left
         cases hd:oc.dst with
         | none=>rfl
         | some d=>
          cases hd':o.dst with
          | none=>rfl
          | some d'=>
           simp only
           exact vn _ _ _ _ (fun e=>hic (F.own i c o oc d ho hoc (e ▸ hd') hd))
       rw [hl]
       exact hJ') (hF.put (i:=i) (hfo i o him ho) v) ?_ ?_ ?_
     ·intro k hk hk2
      rw [Array.getElem?_setIfInBounds_ne (by omega)];exact hmf k hk hk2
     ·intro j y hj hlj e he hbd
      have hset:∀ k:Nat,listed[k]?=some true→(listed.setIfInBounds i true)[k]?=some true:=by
       intro k hk
       by_cases hki:k=i
       ·subst hki;simp [hil]
       ·rw [Array.getElem?_setIfInBounds_ne (Ne.symm hki)];exact hk
      by_cases hji:j=i
      ·subst hji
       obtain rfl:y=o:=by rw [ho] at hj;exact (Option.some.inj hj).symm
       exact hset _ (hdep e he hbd)
      ·rw [Array.getElem?_setIfInBounds_ne (Ne.symm hji)] at hlj
       exact hset _ (hcl j y hj hlj e he hbd)
     ·intro j y hj hlj
      by_cases hji:j=i
      ·subst hji
       obtain rfl:y=o:=by rw [ho] at hj;exact (Option.some.inj hj).symm
       cases hd:y.dst with
       | none=>simpa [left,hd] using hp
       | some d=>
        have hlt:=F.lt j y d hj hd
        simp only [left,hd]
        rw [qp _ _ _ (by rw [hF.size];exact hlt)]
        simpa [hd] using hp
      ·rw [Array.getElem?_setIfInBounds_ne (Ne.symm hji)] at hlj
       have hold:=hmono _ _ _ _ (hP j y hj hlj) hT'
       have he:left (a.put o.dst v) y=left a y:=by
        unfold left
        cases hd:y.dst with
        | none=>rfl
        | some d=>
         cases hd':o.dst with
         | none=>rfl
         | some d'=>
          simp only
          exact vn _ _ _ _ (fun e=>hji (F.own j i y o d hj ho hd (e ▸ hd')))
       rwa [he]
    simp only [wpOp,ho]
    split
    ·rename_i hw
     simp only [hw,if_true] at hst
     refine .inl (Oper.wp_mono ?_ hst)
     rintro a' x' ⟨v,rfl,hT',hp,hJ'⟩
     exact hnew v x' hT' hp hJ'
    ·rename_i hw
     simp only [hw] at hst
     exact hnew undef x (hrefl x) (by split<;>exact hst.1) (by
      have hu:(if o.dst=none then undef else undef)=undef:=by split<;>rfl
      rw [hu]
      exact hst.2)
 refine key _ _ _ _ (by simp) ?_ ?_ hdrew (by
  have:(Array.replicate ops.size false).getD c false=false:=by
   rw [wn,Array.getElem?_replicate]
   split<;>rfl
  rw [this,if_neg (by decide)]
  exact hJ) ⟨rfl,rfl,fun _ _=>rfl⟩ ?_ ?_ ?_
 ·simp
 ·omega
 ·intro i hi hi2
  rw [Array.getElem?_replicate,if_pos hi2]
 ·intro i o _ h
  rw [Array.getElem?_replicate] at h
  split at h<;>simp at h
 ·intro i o _ h
  rw [Array.getElem?_replicate] at h
  split at h<;>simp at h
def StepW {T:WR} (P:Program) (ops fo:Array Oper) (Q:Exit→Act→World→Prop) (L:List (MT T)) (w₀:World) (a₀:Act) (J:Option Value→World→Prop) (c i:Nat) (o:Oper):Prop:=
 ∀ (a:Act) (w:World) (b:Option Value),J b w→(i=c→b=none)→T.r w₀ w→Frm fo a₀ a→DepsT L ops a w o.after.toList →
  if Region.wanted o (yielded ops a.tmps) then o.wp P a w (fun a' w'=>∃ v,a'=a.put o.dst v∧T.r w w'∧postT L i (if o.dst=none then undef else v) w'∧J (if i=c then some (if o.dst=none then undef else v) else b) w') Q else postT L i undef w∧J (if i=c then some undef else b) w
section
variable {T:WR} {P:Program} {ops fo:Array Oper} {Q:Exit→Act→World→Prop} {L:List (MT T)} {w₀:World} {a₀:Act} {J:Option Value→World→Prop} {c i:Nat} {o:Oper}
theorem x8 {u:Value} (hic:i≠c) (hgd:o.guard=none) (hd:o.dst.isSome=true) (hL:L.getD i MT.any=MT.is u)
  (h:∀ (a:Act) (w:World),T.r w₀ w→Frm fo a₀ a→DepsT L ops a w o.after.toList→(execOp a.eval o).run P w=.ok (.value u) w):StepW P ops fo Q L w₀ a₀ J c i o:=by
 intro a w b hJ _ hB hF hD
 rw [if_pos (by simp [Region.wanted,hgd])]
 unfold Oper.wp
 rw [h a w hB hF hD]
 refine ⟨u,rfl,T.refl _,?_,by rw [if_neg hic];exact hJ⟩
 have hne:o.dst≠none:=by intro e;rw [e] at hd;cases hd
 rw [if_neg hne]
 unfold postT
 rw [hL]
 rfl
end
def StepsW {T:WR} (P:Program) (ops fo:Array Oper) (Q:Exit→Act→World→Prop) (L:List (MT T)) (w₀:World) (a₀:Act) (J:Option Value→World→Prop) (c:Nat):Nat→List Oper→Prop
 | _,[]=>True
 | i,o::l=>StepW P ops fo Q L w₀ a₀ J c i o∧StepsW P ops fo Q L w₀ a₀ J c (i+1) l
theorem stepsW_at {T:WR} {P:Program} {ops fo:Array Oper} {Q:Exit→Act→World→Prop} {L:List (MT T)} {w₀:World} {a₀:Act} {J:Option Value→World→Prop} {c:Nat}:∀ (l:List Oper) (k:Nat),StepsW P ops fo Q L w₀ a₀ J c k l→∀ (i:Nat) (o:Oper),l[i]?=some o→StepW P ops fo Q L w₀ a₀ J c (k+i) o
 | [],_,_,i,o,h=>by simp at h
 | x::l,k,hs,i,o,h=>by
  cases i with
  | zero=>simp at h;subst h;exact hs.1
  | succ i=>
   have:=stepsW_at l (k+1) hs.2 i o (by simpa using h)
   rwa [show k+1+i=k+(i+1) by omega] at this
theorem wp_region_list_value {P:Program} {ops:Array Oper} {Q:Exit→Act→World→Prop} {id:Nat} {a₀:Act} {w:World} (hm:P.follows .mixedOrders=true) (T:WR) (L:List (MT T)) (J:Option Value→World→Prop) (c:Nat) (hJ:J none w.drew) (fit:qz ops a₀.tmps.size=true)
  (m:Nat) (hms:m<ops.size) (hcm:c<m) (hneeds:vp ops m=true) (rest:List Oper) (hrest:ops.toList.drop m=rest)
  (steps:StepsW P ops (ops.toList.take m).toArray Q L w a₀ J c 0 (ops.toList.take m))
  (tail:∀ (a:Act) (w':World),T.r w w'→Frm (ops.toList.take m).toArray a₀ a→FinT L a w' 0 (ops.toList.take m)→J (some (left a (ops.getD c default))) w'→wpList P ops Q rest a w'):(Code.region id ops true).wp P Q a₀ w:=by
 have F:=fit_of fit
 have htake:∀ (i:Nat) (x:Oper),i<m→ops[i]?=some x→(ops.toList.take m)[i]?=some x:=by
  intro i x hne hi
  rw [List.getElem?_take,if_pos hne]
  simpa using hi
 refine wp_region_value hm T.r T.refl T.trans (T.drew w) (postT L) (fun i v x y h k=>(L.getD i MT.any).mono v x y h k) J c hJ fit m hms hneeds ?_ ?_
 ·intro i x hne hx a y b hj hb0 hT hF hD
  have h:=stepsW_at (ops.toList.take m) 0 steps i x (htake i x hne hx)
  rw [Nat.zero_add] at h
  exact h a y b hj hb0 hT hF (depsT_of _ (fun j z hj ⟨e,he,h1,h2⟩=>hD j z hj ⟨e,by simpa using he,h1,h2⟩) (fun e he hb=>by
   have h1:=F.on i x e hx (by simpa using he) hb
   have h2:=(wl.1 hx).1
   omega))
 ·intro a w' hT hF hP hj
  rw [if_pos hcm] at hj
  rw [hrest]
  refine tail a w' hT hF (finT_of _ 0 (fun i y hy=>?_)) hj
  rw [Nat.zero_add]
  have hi:i<m:=by
   have:=(List.getElem?_eq_some_iff.1 hy).1
   rw [List.length_take] at this
   omega
  rw [List.getElem?_take,if_pos hi] at hy
  exact hP i y hi (by simpa using hy)
end
section
open Go.RowKit
theorem info_u64:(Tryz.prog.info? 35).map (fun i=>(i.zero,i.size,i.bytes))=some (some (.int .u64 0),1,8):=by kernel_rfl
def keptW (M:List Nat):WR:=⟨Kept M,Kept.refl M,fun _ _ _ h k=>h.trans k,fun x=>(Kept.refl M x).drew⟩
theorem own_u64 {w:World} {ob n:Nat} {v:Value} {xs:List Value} (h:w.ownsRow ob 35 1 v n xs):∀ g,g∈v.ownBlock.toList→ob≤g∧isU w.heap[g]?:=by
 intro g hg
 rcases h.2 with ⟨rfl,_⟩|⟨b,cap,cur,rfl,hb,hc,_⟩
 ·simp [Value.ownBlock] at hg
 ·have:g=b:=by simpa [Value.ownBlock] using hg
  subst this
  exact ⟨hb,⟨_,_,hc⟩⟩
theorem rk_kept {bk:List Nat} {wb ob:Nat} {M gs:List Nat} {x y:World} (h:Kept gs x y) (hg:∀ g∈gs,ob≤g∧isU x.heap[g]?):RK bk wb ob M x y:=
 ⟨h.os,h.tape,h.output,h.size,fun k hk _ _ _ h4=>h.block k hk (fun hm=>by
  obtain ⟨h5,h6⟩:=hg k hm
  rcases h4 with h4|h4
  ·omega
  ·exact h4 h6)⟩
theorem Kept.cellK {M:List Nat} {w w':World} (h:Kept M w w') {b o:Nat} {v:Value} (hc:w.cell? ⟨b,o,none⟩=some v) (hb:b ∉ M):w'.cell? ⟨b,o,none⟩=some v:=h.cell hc hb
theorem Kept.frozenK {M:List Nat} {w w':World} (h:Kept M w w') {b o:Nat} (hlt:b<w.heap.size) (hb:b ∉ M):w'.frozen? ⟨b,o,none⟩=w.frozen? ⟨b,o,none⟩:=World.frozen?_of_block (a:=⟨b,o,none⟩) (h.block b hlt hb)
theorem vh.opn {w0:World} {p:Src} {bk:List Nat} {wb ob sb:Nat} {sv:Value} {secs:Refs} {shp:List Nat} {st:St} {w y:World} (hf:RunFix w0 p bk wb ob sb secs shp) (h:vh w0 p bk wb ob sb sv secs shp st w) {ov v':Value} {V:Int}
  (hov:w.cell? ⟨wb,4,none⟩=some ov) (hrow:w.ownsRow ob 35 1 ov st.opened.length (st.opened.map (Value.int .u64))) (k:Kept ov.ownBlock.toList w y) (ho:y.ownsRow ob 35 1 v' (st.opened.length+1) (st.opened.map (Value.int .u64)++[.int .u64 V])) :
  vh w0 p bk wb ob sb sv secs shp { st with opened:=st.opened++[V] } (y.setCell ⟨wb,4,none⟩ v')∧y.frozen? ⟨wb,4,none⟩=false∧y.cell? ⟨wb,4,none⟩=some ov:=by
 have hg:=own_u64 hrow
 have hwg:wb ∉ ov.ownBlock.toList:=fun hm=>by have:=(hg _ hm).1;have:=hf.wlo.2.1;omega
 obtain ⟨a0,c0,a1,c1,k0,k1,k2⟩:=h.cells
 obtain ⟨ov',k3,k4,k5⟩:=h.opened
 rw [hov] at k3
 cases k3
 obtain ⟨lv,hl,he⟩:=h.secs
 have hwb:=k9 w _ hov
 have hsg:sb ∉ ov.ownBlock.toList:=fun hm=>by
  obtain ⟨_,cs,fr,e⟩:=hg _ hm
  obtain ⟨es,clock,hb,_⟩:=hl
  rw [hb] at e
  simp at e
 have oth:∀ (o:Nat) (v:Value),o≠4→w.cell? ⟨wb,o,none⟩=some v→(y.setCell ⟨wb,4,none⟩ v').cell? ⟨wb,o,none⟩=some v:=fun o v hne hc=>by
  rw [World.cell?_setCell_other (h:=fun e=>hne (congrArg Addr.off e).symm)]
  exact k.cellK hc hwg
 have hcy:=k.cellK hov hwg
 have hfy:y.frozen? ⟨wb,4,none⟩=false:=(k.frozenK hwb hwg).trans k4
 have hset:Kept [wb] y (y.setCell ⟨wb,4,none⟩ v'):=(Kept.refl [wb] y).setCell (.inl (by simp)) _
 refine ⟨⟨⟨a0,c0,a1,c1,oth 0 _ (by decide) k0,oth 1 _ (by decide) k1,k2⟩,oth 2 _ (by decide) h.sec,oth 3 _ (by decide) h.shared,⟨v',World.cell?_setCell_same _ _ _ hcy,by rw [World.frozen?_setCell];exact hfy,?_⟩,⟨lv,(hl.block (k.block sb hl.lt hsg)).block (hset.block sb (Nat.lt_of_lt_of_le hl.lt k.size) (by simpa using hf.slo.2.1)),he⟩,?_,h.nums,h.shape,?_⟩,hfy,hcy⟩
 ·simp only [List.length_append,List.length_cons,List.length_nil,List.map_append,List.map_cons,List.map_nil,Nat.zero_add]
  refine World.ownsRow.kept ho (w':=y.setCell ⟨wb,4,none⟩ v') (row:=some wb) ⟨rfl,rfl,rfl,by simp [World.setCell],fun i _ hi=>Below.heap_setCell _ _ _ _ (fun e=>hi (by rw [e]))⟩ ?_
  cases hv1:v'.ownBlock with
  | none=>exact .inl rfl
  | some kk=>exact .inr (by have:=ks ho kk hv1;have:=hf.wlo.2.1;simp;omega)
 ·intro r l b hr hb j x hj
  obtain ⟨q1,q2⟩:=h.rows r l b hr hb j x hj
  have hbb:=hf.lo b (gg hb)
  have hbg:b ∉ ov.ownBlock.toList:=fun hm=>by have:=(hg _ hm).1;omega
  have hbw:b≠wb:=fun e=>hf.wlo.2.2 (e ▸ gg hb)
  have hbl:=k9 w _ q1
  refine ⟨?_,?_⟩
  ·rw [World.cell?_setCell_other (h:=fun e=>hbw (congrArg Addr.block e).symm)]
   exact k.cellK q1 hbg
  ·rw [World.frozen?_setCell]
   exact (k.frozenK hbl hbg).trans q2
 ·exact wx h.big (wx k.size (by simp [World.setCell]))
def mtOne (gs:List Nat) (n:Int):MT (keptW gs):=⟨fun v w=>∃ b,v=.slice (some ⟨b,0,none⟩) 1 1∧b ∉ gs∧w.cell? ⟨b,0,none⟩=some (.int .u64 n),fun v x y ⟨b,h1,h2,h3⟩ hk=>⟨b,h1,h2,Kept.cellK hk h3 h2⟩⟩
theorem open_fr {E:Env} {F:Fr} {vars:Vars} (hk:E.ok F) {e0:Expr} (n:Int) (s:ByteArray) (H0:ExAt E F vars e0) :∀ (v:Value) (w:World) (st:St),Below E.w0.heap.size E.w0 w→E.run st w→E.fr F vars w→zl E.w0 ⟨6,n,s,[e0]⟩ v→(E.ev F vars ⟨6,n,s,[e0]⟩ st).2.opened.length≤1000000 →
  Calls Tryz.prog 58 #[.pointer (some ⟨F.fb,0,none⟩),v] w (ExRet E w (E.ev F vars ⟨6,n,s,[e0]⟩ st)):=by
 intro v w st hB0 hR hF hx hlen
 obtain ⟨a,c,rfl,hsl⟩:=qu hx
 simp only at hsl ⊢
 have hBl:=(wu w.heap.size w).alloc (wo _) (.cells #[.int .i64 6,.int .u64 n,.string s,.slice a [e0].length c] 53)
 have HCalm:=k8 (Env.box hk hR (cs:=#[.int .i64 6,.int .u64 n,.string s,.slice a [e0].length c]) (t:=53) (by decide))
 have hx2:(w.alloc (.cells #[.int .i64 6,.int .u64 n,.string s,.slice a [e0].length c] 53)).cell? ⟨w.heap.size,2,none⟩=some (.string s):=by simp
 have hx1:(w.alloc (.cells #[.int .i64 6,.int .u64 n,.string s,.slice a [e0].length c] 53)).cell? ⟨w.heap.size,1,none⟩=some (.int .u64 n):=by simp
 have hx3:(w.alloc (.cells #[.int .i64 6,.int .u64 n,.string s,.slice a [e0].length c] 53)).cell? ⟨w.heap.size,3,none⟩=some (.slice a [e0].length c):=by simp
 have hR1:=vh.next hR hBl
 have HRk:=k8 (j8 (bk:=E.bk) (wb:=E.wb) (ob:=E.ob) (M:=[]) hBl)
 have HBel:=k8 (fun (y:World) (k:E.rk [] (w.alloc (.cells #[.int .i64 6,.int .u64 n,.string s,.slice a [e0].length c] 53)) y)=>Env.below hk (hB0.trans (hBl.mono hB0.size)) k)
 have HFr:=k8 (fun (y:World) (k:E.rk [] (w.alloc (.cells #[.int .i64 6,.int .u64 n,.string s,.slice a [e0].length c] 53)) y)=>Env.frame (Env.frame hF (j8 hBl)) k)
 obtain ⟨_,_,he,hlc,hll,hr⟩:=hsl
 simp only [Value.slice.injEq] at he
 obtain ⟨rfl,-,rfl⟩:=he
 obtain ⟨xb,xo,rfl,hro⟩:=hr (by simp)
 obtain ⟨e0a,e0c,hc0,hXI0⟩:=vg (hro 0 e0 rfl)
 rw [Nat.zero_mul,Nat.add_zero] at hc0
 have He0:=k8 hc0
 have HXI0:=k8 hXI0
 have HR1:=k8 hR1
 have HX1:=k8 hx1
 have HX2:=k8 hx2
 have HX3:=k8 hx3
 clear hc0 hXI0 hr hro hlc hll hR1 hx1 hx2 hx3 hBl hx
 simp only [List.length_cons,List.length_nil,Nat.zero_add] at *
 obtain ⟨⟨V0,S0⟩,hVS0⟩:∃ r,E.ev F vars e0 st=r:=⟨_,rfl⟩
 have hev:E.ev F vars ⟨6,n,s,[e0]⟩ st=(V0,{ S0 with opened:=S0.opened++[V0] }):=by
  rw [ev_args _ _ _ _ _ _ _ _ (by decide) (by decide) (by decide),ev_one,hVS0];rfl
 have hl0:=hlen
 rw [hev] at hl0 ⊢
 simp only [List.length_append,List.length_cons,List.length_nil] at hl0
 have HLn:Hid (S0.opened.length≤1000000):=by show _≤_;omega
 have HL0:Hid ((E.ev F vars e0 st).2.opened.length≤1000000):=by show _≤_;rw [hVS0];exact HLn.out
 have HVS:=k8 hVS0
 have HEX0:=k8 H0
 have HFix:=k8 hk.fix
 have HK0:=k8 (RK.refl E.bk E.wb E.ob [] (w.alloc (.cells #[.int .i64 6,.int .u64 n,.string s,.slice (some ⟨xb,xo,none⟩) 1 c] 53)))
 obtain ⟨q00,q01,q02,q03⟩:=He0.out
 have q00:=jb hB0 q00
 have q01:=jb hB0 q01
 have q02:=jb hB0 q02
 have q03:=jb hB0 q03
 have qbl:=k9 w _ q00
 clear hev hVS0 H0 hR hF hB0 hk hlen hl0
 go_enter Tryz.func58,Tryz.ntmps58
 go_wp2_with fail
 refine (HEX0.out _ _ _ (HBel.out _ HK0.out) HR1.out (HFr.out _ HK0.out) HXI0.out HL0.out).mono ?_
 rintro e' w1 ⟨rfl,hkn,hrn,hun⟩
 rw [HVS.out] at hrn hun ⊢
 have HK1:=k8 (HK0.out.trans hkn)
 have HR_w1:=k8 hrn
 have HU_V0:=k8 hun
 clear hkn hrn hun
 simp only
 clear q00 q01 q02 q03 qbl
 obtain ⟨ov,hov,hfz,hown⟩:=HR_w1.out.opened
 have hFr1:=HFr.out _ HK1.out
 have hg:=own_u64 hown
 have HOv:=k8 hov
 have HOwn:=k8 (jv hown ((wu w1.heap.size w1).drew))
 have HOwn0:=k8 hown
 have HFc:=k8 hFr1.cells.1
 have HFg:Hid (F.fb ∉ ov.ownBlock.toList):=fun hm=>hFr1.fcalm.nu (hg _ hm).2
 have HWg:Hid (E.wb ∉ ov.ownBlock.toList):=fun hm=>by have:=(hg _ hm).1;have:=HFix.out.wlo.2.1;omega
 have HGl:Hid (∀ g∈ov.ownBlock.toList,g<w1.heap.size):=fun g hm=>by
  obtain ⟨cs,fr,e⟩:=(hg _ hm).2
  exact (wl.1 e).1
 have HGk:=k8 hg
 have HBig:=k8 HR_w1.out.big
 clear hov hfz hown hg hFr1
 go_wp2_with fail
 refine wp_region_list_value zi (keptW ov.ownBlock.toList) [.is (.pointer (some ⟨F.fb,0,none⟩)),.is (.pointer (some ⟨F.fb,0,none⟩)),.is (.pointer (some ⟨F.fb,0,none⟩)),.is (.pointer (some ⟨E.wb,0,none⟩)),.is (.pointer (some ⟨F.fb,0,none⟩)),.is (.pointer (some ⟨F.fb,0,none⟩)),.is (.pointer (some ⟨F.fb,0,none⟩)),.is (.pointer (some ⟨E.wb,0,none⟩)),.is (.pointer (some ⟨E.wb,0,none⟩)),.is (.pointer (some ⟨E.wb,4,none⟩)),.is (ov),.is (.int .u64 V0),mtOne ov.ownBlock.toList V0,.any] (fun b y=>match b with|none=>y.ownsRow E.ob 35 1 ov S0.opened.length (S0.opened.map (Value.int .u64))|some v=>y.ownsRow E.ob 35 1 v (S0.opened.length+1) (S0.opened.map (Value.int .u64)++[.int .u64 V0])) 13 HOwn.out (by kernel_rfl) 14 (by decide) (by decide) (by kernel_rfl) _ rfl ?_ ?_
 ·refine ⟨?_,?_,?_,?_,?_,?_,?_,?_,?_,?_,?_,?_,?_,?_,trivial⟩
  ·refine x8 (by decide) rfl rfl rfl fun x1 y hB hF hD=>?_
   have e0:slot x1 0=.pointer (some ⟨F.fb,0,none⟩):=hF.at 0 rfl
   clear hB hF
   simp only [execOp,ja,e0]
   first|rfl|(go_simp;try rfl)
  ·refine x8 (by decide) rfl rfl rfl fun x1 y hB hF hD=>?_
   obtain ⟨d0,-⟩:=hD
   have e12:slot x1 12=.pointer (some ⟨F.fb,0,none⟩):=d0 rfl
   clear hB hF
   simp only [execOp,ja,e12]
   first|rfl|(go_simp;try rfl)
  ·refine x8 (by decide) rfl rfl rfl fun x1 y hB hF hD=>?_
   obtain ⟨d0,-⟩:=hD
   have e13:slot x1 13=.pointer (some ⟨F.fb,0,none⟩):=d0 rfl
   clear hB hF
   simp only [execOp,ja,e13]
   first|rfl|(go_simp;try rfl)
  ·refine x8 (by decide) rfl rfl rfl fun x1 y hB hF hD=>?_
   obtain ⟨d0,-⟩:=hD
   have e14:slot x1 14=.pointer (some ⟨F.fb,0,none⟩):=d0 rfl
   have hc:y.cell? ⟨F.fb,0,none⟩=some (.pointer (some ⟨E.wb,0,none⟩)):=hB.cellK HFc.out HFg.out
   clear hB hF
   simp only [execOp,ja,e14]
   first|rfl|(go_simp;try rfl)
  ·refine x8 (by decide) rfl rfl rfl fun x1 y hB hF hD=>?_
   have e0:slot x1 0=.pointer (some ⟨F.fb,0,none⟩):=hF.at 0 rfl
   clear hB hF
   simp only [execOp,ja,e0]
   first|rfl|(go_simp;try rfl)
  ·refine x8 (by decide) rfl rfl rfl fun x1 y hB hF hD=>?_
   obtain ⟨d0,-⟩:=hD
   have e16:slot x1 16=.pointer (some ⟨F.fb,0,none⟩):=d0 rfl
   clear hB hF
   simp only [execOp,ja,e16]
   first|rfl|(go_simp;try rfl)
  ·refine x8 (by decide) rfl rfl rfl fun x1 y hB hF hD=>?_
   obtain ⟨d0,-⟩:=hD
   have e17:slot x1 17=.pointer (some ⟨F.fb,0,none⟩):=d0 rfl
   clear hB hF
   simp only [execOp,ja,e17]
   first|rfl|(go_simp;try rfl)
  ·refine x8 (by decide) rfl rfl rfl fun x1 y hB hF hD=>?_
   obtain ⟨d0,-⟩:=hD
   have e18:slot x1 18=.pointer (some ⟨F.fb,0,none⟩):=d0 rfl
   have hc:y.cell? ⟨F.fb,0,none⟩=some (.pointer (some ⟨E.wb,0,none⟩)):=hB.cellK HFc.out HFg.out
   clear hB hF
   simp only [execOp,ja,e18]
   first|rfl|(go_simp;try rfl)
  ·refine x8 (by decide) rfl rfl rfl fun x1 y hB hF hD=>?_
   obtain ⟨d0,-⟩:=hD
   have e19:slot x1 19=.pointer (some ⟨E.wb,0,none⟩):=d0 rfl
   clear hB hF
   simp only [execOp,ja,e19]
   first|rfl|(go_simp;try rfl)
  ·refine x8 (by decide) rfl rfl rfl fun x1 y hB hF hD=>?_
   obtain ⟨d0,-⟩:=hD
   have e20:slot x1 20=.pointer (some ⟨E.wb,0,none⟩):=d0 rfl
   clear hB hF
   simp only [execOp,ja,e20]
   first|rfl|(go_simp;try rfl)
  ·refine x8 (by decide) rfl rfl rfl fun x1 y hB hF hD=>?_
   obtain ⟨d0,-⟩:=hD
   have e21:slot x1 21=.pointer (some ⟨E.wb,4,none⟩):=d0 rfl
   have hc:y.cell? ⟨E.wb,4,none⟩=some ov:=hB.cellK HOv.out HWg.out
   clear hB hF
   simp only [execOp,ja,e21]
   first|rfl|(go_simp;try rfl)
  ·refine x8 (by decide) rfl rfl rfl fun x1 y hB hF hD=>?_
   have e5:slot x1 5=.int .u64 V0:=hF.at 5 rfl
   clear hB hF
   simp only [execOp,ja,e5]
   first|rfl|(go_simp;try rfl)
  ·intro x1 y b hJ _ hB hF hD
   obtain ⟨d0,-⟩:=hD
   rw [if_pos (by simp [Region.wanted])]
   have e1:slot x1 23=.int .u64 V0:=d0 rfl
   have g1:=jh e1
   clear hF e1
   unfold Oper.wp
   simp only [execOp]
   simp [go_sem,g1]
   refine ⟨_,rfl,(Kept.refl _ y).alloc _,?_,?_⟩
   ·have hcn:(y.alloc (.cells #[.int .u64 V0] 35)).cell? ⟨y.heap.size,0,none⟩=some (.int .u64 V0):=by simp
    have hgn:y.heap.size ∉ ov.ownBlock.toList:=fun hm=>by have:=HGl.out _ hm;have:=hB.size;omega
    exact (⟨y.heap.size,rfl,hgn,hcn⟩:(mtOne ov.ownBlock.toList V0).p _ _)
   ·cases b with
    | none=>exact jv hJ ((wu _ _).alloc (wo _) _)
    | some v=>exact jv hJ ((wu _ _).alloc (wo _) _)
  ·intro x1 y b hJ hb0 hB hF hD
   obtain ⟨d0,d1,-⟩:=hD
   rw [if_pos (by simp [Region.wanted])]
   have e1:slot x1 22=ov:=d0 rfl
   obtain ⟨nb,e2,-,hnc⟩:∃ b,slot x1 24=.slice (some ⟨b,0,none⟩) 1 1∧b ∉ ov.ownBlock.toList∧y.cell? ⟨b,0,none⟩=some (.int .u64 V0):=d1 rfl
   have hb:=hb0 rfl
   subst hb
   obtain ⟨i0,hi,hi0,hi1,hi2⟩:=info_parts info_u64
   refine wp_append_own y _ _ 26 rfl E.ob 35 i0 _ 1 8 Tryz.underlying26 hi hi0 hi1 hi2 rfl (by omega) ov S0.opened.length (S0.opened.map (Value.int .u64)) (by rw [ja];exact e1) hJ ⟨nb,0,none⟩ 1 1 [.int .u64 V0] (by rw [ja];exact e2) rfl ?_ ?_ ?_ ?_ (wx HBig.out hB.size) ?_
   ·intro j u hj
    cases j with
    | zero=>
     simp only [List.getElem?_cons_zero,Option.some.injEq] at hj
     subst hj
     exact hnc
    | succ j=>simp at hj
   ·intro u hu
    simp only [wy] at hu
    subst hu
    rfl
   ·have:=HLn.out;simp only [maxLen];omega
   ·have:=HLn.out;omega
   ·intro v' w' h2 h3 _
    exact ⟨v',rfl,kept_grown h3 (fun b hb=>by simp [hb]),trivial,h2⟩
 ·intro x1 y hB hF hP hJ
  obtain ⟨p0,p1,p2,p3,p4,p5,p6,p7,p8,p9,p10,p11,p12,p13,-⟩:=hP
  have hx:=jj hF [(12,.pointer (some ⟨F.fb,0,none⟩)),(13,.pointer (some ⟨F.fb,0,none⟩)),(14,.pointer (some ⟨F.fb,0,none⟩)),(15,.pointer (some ⟨E.wb,0,none⟩)),(16,.pointer (some ⟨F.fb,0,none⟩)),(17,.pointer (some ⟨F.fb,0,none⟩)),(18,.pointer (some ⟨F.fb,0,none⟩)),(19,.pointer (some ⟨E.wb,0,none⟩)),(20,.pointer (some ⟨E.wb,0,none⟩)),(21,.pointer (some ⟨E.wb,4,none⟩)),(22,ov),(23,.int .u64 V0),(24,slot x1 24),(25,slot x1 25)] rfl ⟨p0,p1,p2,p3,p4,p5,p6,p7,p8,p9,p10,p11,rfl,rfl,trivial⟩
  have hrow:y.ownsRow E.ob 35 1 (slot x1 25) (S0.opened.length+1) (S0.opened.map (Value.int .u64)++[.int .u64 V0]):=hJ
  obtain ⟨hfin,hfz,hcy⟩:=vh.opn HFix.out HR_w1.out HOv.out HOwn0.out hB hrow
  have HKy:=k8 (HRk.out.trans (HK1.out.trans ((rk_kept (M:=[]) hB HGk.out).setCell (p:=⟨E.wb,4,none⟩) (.inr (.inr (.inl rfl))) (slot x1 25))))
  obtain ⟨va1,vl1,vc1,hv1⟩:∃ a l c,slot x1 25=.slice a l c:=by
   rcases hrow.2 with ⟨h,_⟩|⟨g,cap,cur,h,_⟩
   ·exact ⟨_,_,_,h⟩
   ·exact ⟨_,_,_,h⟩
  obtain ⟨nb,h24,-⟩:∃ b,slot x1 24=.slice (some ⟨b,0,none⟩) 1 1∧b ∉ ov.ownBlock.toList∧y.cell? ⟨b,0,none⟩=some (.int .u64 V0):=p12
  rw [hv1,h24] at hx
  rw [hv1] at hfin HKy
  have HFin:=k8 hfin
  clear hB hF hrow hfin hv1 h24 hJ p13 p0 p1 p2 p3 p4 p5 p6 p7 p8 p9 p10 p11
  subst hx
  simp only [puts,Act.put,we,wg,wi,wj,wk]
  go_wp2
  go_ret
  exact ⟨rfl,HKy.out,HFin.out,HU_V0.out⟩
end
section
open Go.RowKit
def Env.ex (E:Env) (F:Fr) (l:List Stmt) (y:Vars×Int×St):Vars×Int×St:=exSs aluF (callT aluF E.p E.secs F.i) E.p F.i E.secs F.ptrs l y
def BodyRet (E:Env) (F:Fr) (w:World) (r:Vars×Int×St) (e:Ending) (w':World):Prop:=e=.returned (.int .u64 r.2.1)∧E.rk [F.vm] w w'∧E.run r.2.2 w'∧E.fr F r.1 w'∧U64 r.2.1
def BodyAt (E:Env) (F:Fr) (l:List Stmt):Prop:=∀ (vars:Vars) (v:Value) (w:World) (st:St),Below E.w0.heap.size E.w0 w→E.run st w→E.fr F vars w→Sl 6 (j9 E.w0) v l→(E.ex F l (vars,0,st)).2.2.opened.length≤1000000→Calls Tryz.prog 26 #[.pointer (some ⟨F.fb,0,none⟩),v] w (BodyRet E F w (E.ex F l (vars,0,st)))
def argStep (E:Env) (F:Fr) (vars:Vars) (e:Expr) (q:z8) (y:Vars×Refs×St):Vars×Refs×St:=
 if q.kind=2 then (y.1,aput y.2.1 q.name { refAt F.ptrs e.name with len:=q.len.toNat },y.2.2) else (aput y.1 q.name (E.ev F vars e y.2.2).1,y.2.1,(E.ev F vars e y.2.2).2)
def Env.args (E:Env) (F:Fr) (vars:Vars) (xs:List Expr) (qs:List z8) (y:Vars×Refs×St):Vars×Refs×St:=evArgs aluF (callT aluF E.p E.secs F.i) E.p F.i E.secs vars F.ptrs xs qs y
theorem args_snoc (E:Env) (F:Fr) (vars:Vars):∀ (xs:List Expr) (qs:List z8) (y:Vars×Refs×St) (k:Nat) (h1:k<xs.length) (h2:k<qs.length),E.args F vars (xs.take (k+1)) (qs.take (k+1)) y=argStep E F vars xs[k] qs[k] (E.args F vars (xs.take k) (qs.take k) y)
 | [],_,_,_,h,_=>by simp at h
 | _::_,[],_,_,_,h=>by simp at h
 | e::xs,q::qs,y,0,_,_=>by
  simp only [List.take_succ_cons,List.take_zero,Env.args,evArgs,argStep,List.getElem_cons_zero,Env.ev]
 | e::xs,q::qs,y,k+1,h1,h2=>by
  have ih:=fun y=>args_snoc E F vars xs qs y k (by simpa using h1) (by simpa using h2)
  simp only [List.take_succ_cons,List.getElem_cons_succ]
  unfold Env.args at *
  rw [evArgs]
  conv=>rhs;rw [evArgs]
  split
  ·exact ih _
  ·exact ih _
theorem argStep_mono (E:Env) (F:Fr) (vars:Vars) (e:Expr) (q:z8) (y:Vars×Refs×St):y.2.2.opened.length≤(argStep E F vars e q y).2.2.opened.length:=by
 unfold argStep
 split
 ·exact wo _
 ·exact ev_mono E F vars e y.2.2
theorem args_upto (E:Env) (F:Fr) (vars:Vars) (xs:List Expr) (qs:List z8) (y:Vars×Refs×St) (hl:xs.length=qs.length):∀ (d k:Nat),k+d=xs.length→(E.args F vars (xs.take k) (qs.take k) y).2.2.opened.length≤(E.args F vars xs qs y).2.2.opened.length
 | 0,k,h=>by
  rw [ww (by omega),ww (by omega)]
  exact wo _
 | d+1,k,h=>by
  refine wx ?_ (args_upto E F vars xs qs y hl d (k+1) (by omega))
  rw [args_snoc E F vars xs qs y k (by omega) (by omega)]
  exact argStep_mono E F vars _ _ _
theorem callT_at (p:Src) (secs:Refs) {j:Nat} {g:Fun} (hg:p.funcs[j]?=some g):∀ i,j<i→∀ (vs:Vars) (ps:Refs) (st:St),callT aluF p secs i j vs ps st=((exSs aluF (callT aluF p secs j) p j secs ps g.body (vs,0,st)).2.1,(exSs aluF (callT aluF p secs j) p j secs ps g.body (vs,0,st)).2.2)
 | 0,h,_,_,_=>by omega
 | i+1,h,vs,ps,st=>by
  rw [callT]
  by_cases hj:j=i
  ·subst hj
   rw [if_pos rfl,hg]
  ·rw [if_neg hj]
   exact callT_at p secs hg i (by omega) vs ps st
theorem ev_call (E:Env) (F:Fr) (vars:Vars) (n:Int) (s:ByteArray) (xs:List Expr) (st:St) {j:Nat} {g:Fun} (hc:yf E.p F.i s=some j) (hj:j<F.i) (hg:E.p.funcs[j]?=some g) (fb vm pm:Nat) :
  E.ev F vars ⟨5,n,s,xs⟩ st=(let y:=E.args F vars xs g.params ([],[],st);let r:=E.ex ⟨j,g,fb,vm,pm,y.2.1⟩ g.body (y.1,0,y.2.2);(r.2.1,r.2.2)):=by
 unfold Env.ev
 rw [evE,if_neg (by decide),if_neg (by decide),if_pos rfl,hc]
 simp only
 rw [hg]
 simp only
 rw [callT_at E.p E.secs hg F.i hj]
 rfl
theorem argFit {p:Src} {i:Nat} {f:Fun} {xs:List Expr} {qs:List z8} (h:vr p i f xs qs=true) (hl:xs.length=qs.length) (k:Nat) (h1:k<xs.length) (h2:k<qs.length) (hq:qs[k].kind=2):∃ n,aget (zm f) xs[k].name=some n∧qs[k].len≤n:=by
 rw [typedArgs_zip,List.all_eq_true] at h
 have:=h (xs[k],qs[k]) (by
  have hz:k<(xs.zip qs).length:=by rw [List.length_zip];omega
  have e:(xs.zip qs)[k]=(xs[k],qs[k]):=by simp
  rw [← e]
  exact List.getElem_mem _)
 unfold kp at this
 simp only at this
 rw [if_pos hq,Bool.and_eq_true] at this
 cases ha:aget (zm f) xs[k].name with
 | none=>rw [ha] at this;simp at this
 | some n=>rw [ha] at this;exact ⟨n,rfl,by simpa using this.2⟩
theorem call_fr {E:Env} {F:Fr} {vars:Vars} (hk:E.ok F) (n:Int) (s:ByteArray) (xs:List Expr) (hx5:runE E.p F.i F.f ⟨5,n,s,xs⟩) (HA:∀ e∈xs,ExAt E F vars e) (HBody:∀ (F':Fr),F'.i<F.i→E.ok F'→BodyAt E F' F'.f.body) :
  ∀ (v:Value) (w:World) (st:St),Below E.w0.heap.size E.w0 w→E.run st w→E.fr F vars w→zl E.w0 ⟨5,n,s,xs⟩ v→(E.ev F vars ⟨5,n,s,xs⟩ st).2.opened.length≤1000000 →
  Calls Tryz.prog 57 #[.pointer (some ⟨F.fb,0,none⟩),v] w (ExRet E w (E.ev F vars ⟨5,n,s,xs⟩ st)):=by
 intro v w st hB0 hR hF hx hlen
 obtain ⟨a,c,rfl,hsl⟩:=qu hx
 simp only at hsl ⊢
 obtain ⟨j,g,hj,hg,hln,hty⟩:=hx5.2.1 rfl
 simp only at hj hln hty
 have hji:j<F.i:=by
  rcases xh E.p F.i s with ⟨h1,_⟩|⟨j',h1,_,h3,_⟩
  ·rw [hj] at h1;cases h1
  ·rw [hj] at h1;cases h1;exact h3
 have hev:=fun fb vm pm=>ev_call E F vars n s xs st hj hji hg fb vm pm
 have hgp:=(hk.fine.fine.funs j g hg).params
 have hBl:=(wu w.heap.size w).alloc (wo _) (.cells #[.int .i64 5,.int .u64 n,.string s,.slice a xs.length c] 53)
 have hXc:=Env.box hk hR (cs:=#[.int .i64 5,.int .u64 n,.string s,.slice a xs.length c]) (t:=53) (by decide)
 have hx2:(w.alloc (.cells #[.int .i64 5,.int .u64 n,.string s,.slice a xs.length c] 53)).cell? ⟨w.heap.size,2,none⟩=some (.string s):=by simp
 have hx3:(w.alloc (.cells #[.int .i64 5,.int .u64 n,.string s,.slice a xs.length c] 53)).cell? ⟨w.heap.size,3,none⟩=some (.slice a xs.length c):=by simp
 have HX2:=k8 hx2
 have HX3:=k8 hx3
 have HXc:=k8 hXc
 have hRW:=vh.next hR hBl
 have hFW:=Env.frame hF (j8 hBl)
 have hBW:=hB0.trans (hBl.mono hB0.size)
 have HRW:=k8 hRW
 have HFW:=k8 hFW
 have HBW:=k8 hBW
 have HRk:=k8 (j8 (bk:=E.bk) (wb:=E.wb) (ob:=E.ob) (M:=[]) hBl)
 obtain ⟨pa0,pc0,pa1,pc1,w10,w11,hSrc⟩:=hRW.cells
 obtain ⟨_,hsf⟩:=srcIs_at hSrc
 obtain ⟨_,_,he,hcf,hlf,hrf⟩:=hsf
 simp only [Value.slice.injEq] at he
 obtain ⟨rfl,-,rfl⟩:=he
 have hjl:j<E.p.funcs.length:=(List.getElem?_eq_some_iff.1 hg).1
 have hil:F.i<E.p.funcs.length:=(List.getElem?_eq_some_iff.1 hk.fit.fn).1
 obtain ⟨fbb,fo,rfl,hrow⟩:=hrf (by intro h;rw [h] at hjl;simp at hjl)
 have hsf:Sl 4 (FunAt E.w0) (.slice (some ⟨fbb,fo,none⟩) E.p.funcs.length pc1) E.p.funcs:=⟨_,_,rfl,hcf,hlf,fun _=>⟨_,_,rfl,hrow⟩⟩
 obtain ⟨ga,gc,ha,hc',gc0,gc1,gc2,gc3,hgps,hgbd⟩:=funIs_at (hrow j g hg)
 obtain ⟨fa,hfa⟩:∃ fa:Addr,fa=⟨fbb,fo,none⟩:=⟨_,rfl⟩
 obtain ⟨c1,hc1⟩:∃ c1,c1=pc1:=⟨_,rfl⟩
 have HIX:=k8 (fun (w1:World) (hb:Below (w.alloc (.cells #[.int .i64 5,.int .u64 n,.string s,.slice a xs.length c] 53)).heap.size (w.alloc (.cells #[.int .i64 5,.int .u64 n,.string s,.slice a xs.length c] 53)) w1)=>
  index_func (fun w b o x=>FunAt w b o x) FunIs funOpen (fun w'=>Below (w.alloc (.cells #[.int .i64 5,.int .u64 n,.string s,.slice a xs.length c] 53)).heap.size (w.alloc (.cells #[.int .i64 5,.int .u64 n,.string s,.slice a xs.length c] 53)) w') (.slice (some fa) F.i c1) (E.p.funcs.take F.i) 94 #[] #[.pointer (some ⟨w.heap.size,0,none⟩)] (fun f:Fun=>f.name == s) w1 (fun _ _=>by kernel_rfl) hb
  (fun w' hw'=>by
   rw [hfa,hc1]
   exact (hsf.take F.i (by omega)).imp (fun b o x _ hx=>FunAt.below (hBW.trans (hw'.mono hBW.size)) x b o hx))
  (fun w' j x val hw' hx hV=>(callee_fr x val s w.heap.size w' w' hV (jb hw' HX2.out)).mono (by
   rintro e w2 ⟨rfl,hB⟩
   exact ⟨rfl,hw'.trans (hB.mono hw'.size)⟩)))
 have hci:=callee_idx (names_once hk.fine.fine.once) hj
 rw [hci] at HIX
 have HW1:Hid ((w.alloc (.cells #[.int .i64 5,.int .u64 n,.string s,.slice a xs.length c] 53)).cell? ⟨E.wb,1,none⟩=some (.slice (some fa) E.p.funcs.length c1)):=by show _=_;rw [hfa,hc1];exact w11
 have HF0:=k8 hFW.cells.1
 have HF1:=k8 hFW.cells.2.1
 have HIl:=k8 hil
 have HCap:Hid (E.p.funcs.length≤c1):=by show _≤_;rw [hc1];exact hcf
 have HG2:=k8 gc2
 have HG3:=k8 gc3
 have HGps:=k8 hgps
 have HGbd:=k8 hgbd
 have HSl:=k8 hsl
 have HEv:=k8 hev
 have HLn:=k8 hln
 have HTy:=k8 hty
 have HGp:=k8 hgp
 have HHA:=k8 HA
 have HBd:=k8 HBody
 have HOk:=k8 hk
 have HJi:=k8 hji
 have HG:=k8 hg
 have HJl:=k8 hjl
 have HFa:=k8 hfa
 have HFl:=k8 hlf
 have hgl:g.params.length≤6:=hgp.1
 obtain ⟨RR,hRR⟩:∃ r,E.ev F vars ⟨5,n,s,xs⟩ st=r:=⟨_,rfl⟩
 rw [hRR] at hlen ⊢
 have HRR:=k8 hRR
 have HLen0:=k8 hlen
 clear hRR hlen hev hsl hx hB0 hR hF hBl hXc hx2 hx3 hRW hFW hBW w10 w11 hSrc hcf hlf hrf hrow hsf hgps hgbd hci hx5 HA HBody hk hji hj hg hln hty hgp gc0 gc1 gc2 gc3 hjl hil hfa hc1
 go_enter Tryz.func57,Tryz.ntmps57
 go_wp2_with fail
 refine je zi [.is (.pointer (some ⟨F.fb,0,none⟩)),.is (.pointer (some ⟨F.fb,0,none⟩)),.is (.pointer (some ⟨F.fb,0,none⟩)),.is (.pointer (some ⟨E.wb,0,none⟩)),.is (.pointer (some ⟨E.wb,0,none⟩)),.is (.pointer (some ⟨E.wb,0,none⟩)),.is (.pointer (some ⟨E.wb,1,none⟩)),.is (.slice (some fa) E.p.funcs.length c1),.is (.pointer (some ⟨F.fb,0,none⟩)),.is (.pointer (some ⟨F.fb,0,none⟩)),.is (.pointer (some ⟨F.fb,1,none⟩)),.is (.int .i64 F.i),.is (.slice (some fa) F.i c1),.is (.func (.func 94) #[] #[.pointer (some ⟨w.heap.size,0,none⟩)])] (by kernel_rfl) 14 (by decide) (by kernel_rfl) _ rfl ?_ ?_
 ·refine ⟨?_,?_,?_,?_,?_,?_,?_,?_,?_,?_,?_,?_,?_,?_,trivial⟩
  ·refine jc rfl rfl rfl fun x1 y hB hF hD=>?_
   have e0:slot x1 0=.pointer (some ⟨F.fb,0,none⟩):=hF.at 0 rfl
   clear hB hF
   simp only [execOp,ja,e0]
   first|rfl|(go_simp;try rfl)
  ·refine jc rfl rfl rfl fun x1 y hB hF hD=>?_
   obtain ⟨d0,-⟩:=hD
   have e9:slot x1 9=.pointer (some ⟨F.fb,0,none⟩):=d0 rfl
   clear hB hF
   simp only [execOp,ja,e9]
   first|rfl|(go_simp;try rfl)
  ·refine jc rfl rfl rfl fun x1 y hB hF hD=>?_
   obtain ⟨d0,-⟩:=hD
   have e10:slot x1 10=.pointer (some ⟨F.fb,0,none⟩):=d0 rfl
   clear hB hF
   simp only [execOp,ja,e10]
   first|rfl|(go_simp;try rfl)
  ·refine jc rfl rfl rfl fun x1 y hB hF hD=>?_
   obtain ⟨d0,-⟩:=hD
   have e11:slot x1 11=.pointer (some ⟨F.fb,0,none⟩):=d0 rfl
   have hc:y.cell? ⟨F.fb,0,none⟩=some (.pointer (some ⟨E.wb,0,none⟩)):=jb hB HF0.out
   clear hB hF
   simp only [execOp,ja,e11]
   first|rfl|(go_simp;try rfl)
  ·refine jc rfl rfl rfl fun x1 y hB hF hD=>?_
   obtain ⟨d0,-⟩:=hD
   have e12:slot x1 12=.pointer (some ⟨E.wb,0,none⟩):=d0 rfl
   clear hB hF
   simp only [execOp,ja,e12]
   first|rfl|(go_simp;try rfl)
  ·refine jc rfl rfl rfl fun x1 y hB hF hD=>?_
   obtain ⟨d0,-⟩:=hD
   have e13:slot x1 13=.pointer (some ⟨E.wb,0,none⟩):=d0 rfl
   clear hB hF
   simp only [execOp,ja,e13]
   first|rfl|(go_simp;try rfl)
  ·refine jc rfl rfl rfl fun x1 y hB hF hD=>?_
   obtain ⟨d0,-⟩:=hD
   have e14:slot x1 14=.pointer (some ⟨E.wb,0,none⟩):=d0 rfl
   clear hB hF
   simp only [execOp,ja,e14]
   first|rfl|(go_simp;try rfl)
  ·refine jc rfl rfl rfl fun x1 y hB hF hD=>?_
   obtain ⟨d0,-⟩:=hD
   have e15:slot x1 15=.pointer (some ⟨E.wb,1,none⟩):=d0 rfl
   have hc:y.cell? ⟨E.wb,1,none⟩=some (.slice (some fa) E.p.funcs.length c1):=jb hB HW1.out
   clear hB hF
   simp only [execOp,ja,e15]
   first|rfl|(go_simp;try rfl)
  ·refine jc rfl rfl rfl fun x1 y hB hF hD=>?_
   have e0:slot x1 0=.pointer (some ⟨F.fb,0,none⟩):=hF.at 0 rfl
   clear hB hF
   simp only [execOp,ja,e0]
   first|rfl|(go_simp;try rfl)
  ·refine jc rfl rfl rfl fun x1 y hB hF hD=>?_
   obtain ⟨d0,-⟩:=hD
   have e17:slot x1 17=.pointer (some ⟨F.fb,0,none⟩):=d0 rfl
   clear hB hF
   simp only [execOp,ja,e17]
   first|rfl|(go_simp;try rfl)
  ·refine jc rfl rfl rfl fun x1 y hB hF hD=>?_
   obtain ⟨d0,-⟩:=hD
   have e18:slot x1 18=.pointer (some ⟨F.fb,0,none⟩):=d0 rfl
   clear hB hF
   simp only [execOp,ja,e18]
   first|rfl|(go_simp;try rfl)
  ·refine jc rfl rfl rfl fun x1 y hB hF hD=>?_
   obtain ⟨d0,-⟩:=hD
   have e19:slot x1 19=.pointer (some ⟨F.fb,1,none⟩):=d0 rfl
   have hc:y.cell? ⟨F.fb,1,none⟩=some (.int .i64 F.i):=jb hB HF1.out
   clear hB hF
   simp only [execOp,ja,e19]
   first|rfl|(go_simp;try rfl)
  ·refine jc rfl rfl rfl fun x1 y hB hF hD=>?_
   obtain ⟨d0,d1,-⟩:=hD
   have e16:slot x1 16=.slice (some fa) E.p.funcs.length c1:=d0 rfl
   have e20:slot x1 20=.int .i64 F.i:=d1 rfl
   have hil:F.i<E.p.funcs.length:=HIl.out
   have hcap:E.p.funcs.length≤c1:=HCap.out
   have g16:=jh e16
   have g20:=jh e20
   clear hB hF e16 e20
   simp only [execOp]
   simp [go_sem,g16,g20]
   intro hcc
   exfalso
   omega
  ·refine jc rfl rfl rfl fun x1 y hB hF hD=>?_
   have e3:slot x1 3=.pointer (some ⟨w.heap.size,0,none⟩):=hF.at 3 rfl
   have g3:=jh e3
   clear hB hF e3
   simp only [execOp]
   simp [go_sem,g3]
 ·intro x1 y hB hF hP
  obtain ⟨p0,p1,p2,p3,p4,p5,p6,p7,p8,p9,p10,p11,p12,p13,-⟩:=hP
  have hx:=jj hF [(9,.pointer (some ⟨F.fb,0,none⟩)),(10,.pointer (some ⟨F.fb,0,none⟩)),(11,.pointer (some ⟨F.fb,0,none⟩)),(12,.pointer (some ⟨E.wb,0,none⟩)),(13,.pointer (some ⟨E.wb,0,none⟩)),(14,.pointer (some ⟨E.wb,0,none⟩)),(15,.pointer (some ⟨E.wb,1,none⟩)),(16,.slice (some fa) E.p.funcs.length c1),(17,.pointer (some ⟨F.fb,0,none⟩)),(18,.pointer (some ⟨F.fb,0,none⟩)),(19,.pointer (some ⟨F.fb,1,none⟩)),(20,.int .i64 F.i),(21,.slice (some fa) F.i c1),(22,.func (.func 94) #[] #[.pointer (some ⟨w.heap.size,0,none⟩)])] rfl ⟨p0,p1,p2,p3,p4,p5,p6,p7,p8,p9,p10,p11,p12,p13,trivial⟩
  have HIXy:=k8 (HIX.out y hB)
  clear hB hF p0 p1 p2 p3 p4 p5 p6 p7 p8 p9 p10 p11 p12 p13 HIX
  subst hx
  simp only [puts,Act.put,we,wg,wi,wj,wk]
  go_wp2_with fail
  refine HIXy.out.mono ?_
  rintro e w1 ⟨rfl,hB1⟩
  have hF1:E.fr F vars w1:=Env.frame HFW.out (j8 hB1)
  have hR1:E.run st w1:=vh.next HRW.out hB1
  have f0:=hF1.cells.1
  have HFn:=k8 (frame_fr (bk:=E.bk) (wb:=E.wb) (ob:=E.ob) (i:=j) (fun b hb=>Nat.lt_of_lt_of_le (HOk.out.fix.lo b hb).2 hR1.big) (Nat.lt_of_lt_of_le HOk.out.fix.wlo.2.1 hR1.big) hR1.big)
  have HB1:=k8 hB1
  have HF1:=k8 hF1
  have HR1:=k8 hR1
  clear hB1 hF1 hR1 HIXy
  go_wp2_with fail
  refine HFn.out.mono ?_
  rintro e w2 ⟨hB2,rfl,hF2⟩
  obtain ⟨nvm,hnvm⟩:∃ nvm,w1.heap.size=nvm:=⟨_,rfl⟩
  obtain ⟨npm,hnpm⟩:∃ npm,w1.heap.size+1=npm:=⟨_,rfl⟩
  obtain ⟨nfb,hnfb⟩:∃ nfb,w1.heap.size+1+1=nfb:=⟨_,rfl⟩
  have hF1':E.fr F vars w2:=Env.frame HF1.out (j8 hB2)
  have hR2:E.run st w2:=vh.next HR1.out hB2
  have f0':=hF1'.cells.1
  have hBW2:Below (w.alloc (.cells #[.int .i64 5,.int .u64 n,.string s,.slice a xs.length c] 53)).heap.size (w.alloc (.cells #[.int .i64 5,.int .u64 n,.string s,.slice a xs.length c] 53)) w2:=HB1.out.trans (hB2.mono HB1.out.size)
  have hBE2:=HBW.out.trans (hBW2.mono HBW.out.size)
  obtain ⟨pa0,pc0,pa1,pc1,w10,w11,-⟩:=hR2.cells
  have w11':=jb hBW2 HW1.out
  rw [w11] at w11'
  simp only [Option.some.injEq,Value.slice.injEq] at w11'
  obtain ⟨rfl,-,rfl⟩:=w11'
  have hfa:=HFa.out
  subst hfa
  have g2':=jb hBE2 HG2.out
  have hjl:=HJl.out
  have hfl:=HFl.out
  have HF2:=k8 hF2
  have HFc2:=k8 hF1'
  have HR2:=k8 hR2
  have HBW2:=k8 hBW2
  have HBE2:=k8 hBE2
  rw [hnpm] at HF2
  rw [hnvm] at HF2
  have hnpm':=hnpm
  rw [hnvm] at hnpm'
  have hz2:nfb<w2.heap.size:=by have:=hF2.fcalm.lt;omega
  have hXlt:w.heap.size<nvm:=by have:=HB1.out.size;simp at this;omega
  have hflt:F.fb<nvm∧F.vm<nvm∧F.pm<nvm:=⟨by rw [← hnvm];exact HF1.out.fcalm.lt,by rw [← hnvm];exact HF1.out.vcalm.lt,by rw [← hnvm];exact HF1.out.pcalm.lt⟩
  have hpn:nvm<npm:=by omega
  have hpf:npm<nfb:=by omega
  rw [← hnvm] at hnpm'
  rw [hnpm] at hnfb
  rw [hnfb] at HF2
  rw [hnpm,hnfb]
  clear hB2 hF2 hF1' hR2 hBW2 hBE2 hnpm' hnvm hnpm hnfb HFn w10
  generalize hwh:w.heap.size=wh at *
  go_wp2_with fail
  clear w11 g2' f0' f0
  go_loopw [43] (fun iv wr=>∃ ik:Nat,ik≤g.params.length∧iv=.int .i64 ik∧E.rk [nvm,npm] w2 wr∧E.run (E.args F vars (xs.take ik) (g.params.take ik) ([],[],st)).2.2 wr∧zx E.bk E.wb E.ob j nfb nvm npm (E.args F vars (xs.take ik) (g.params.take ik) ([],[],st)).1 (E.args F vars (xs.take ik) (g.params.take ik) ([],[],st)).2.1 wr ∧
   (E.args F vars (xs.take ik) (g.params.take ik) ([],[],st)).2.1.map (fun x=>(x.1,(x.2.len:Int)))=(g.params.take ik).foldl (fun l x=>if x.kind=2 then aput l x.name x.len else l) []∧(∀ x∈(E.args F vars (xs.take ik) (g.params.take ik) ([],[],st)).2.1,∃ n,E.shp[x.2.row]?=some n∧x.2.off+x.2.len≤n∧1≤x.2.len)) (fun iv _=>g.params.length - (intOf iv).toNat)
  case atStart=>exact ⟨0,gj _,rfl,RK.refl _ _ _ _ _,HR2.out,HF2.out,rfl,fun x hx=>by cases hx⟩
  case round=>
   obtain ⟨ik,hik,rfl,hKr,hRr,hFr,hPr,hOr⟩:=hrel
   have hmlen:=args_upto E F vars xs g.params ([],[],st) HLn.out
   by_cases hlt:ik<g.params.length
   ·have hltx:ik<xs.length:=by have:=HLn.out;omega
    have hsn:=args_snoc E F vars xs g.params ([],[],st) ik hltx hlt
    have hlnx:=hmlen (xs.length - (ik+1)) (ik+1) (by omega)
    rw [hsn] at hlnx
    have hBel:Below E.w0.heap.size E.w0 wr:=HBE2.out.trans (hKr.below (B:=E.w0.heap.size) HBE2.out.size (fun b hb=>(HOk.out.fix.lo b hb).1) HOk.out.fix.wlo.1 (wx HOk.out.fix.wlo.1 (Nat.le_of_lt HOk.out.fix.wlo.2.1)) (fun b hb=>by
     have h1:=HBW.out.size
     simp at h1
     simp only [gh,List.not_mem_nil,or_false] at hb
     rcases hb with rfl|rfl<;>omega))
    obtain ⟨_,_,he,_,_,hr⟩:=HSl.out
    simp only [Value.slice.injEq] at he
    obtain ⟨rfl,-,rfl⟩:=he
    obtain ⟨xb,xo,rfl,hro⟩:=hr (by intro h;rw [h] at hltx;simp at hltx)
    obtain ⟨_,_,he,_,_,hrp⟩:=HGps.out
    simp only [Value.slice.injEq] at he
    obtain ⟨rfl,-,rfl⟩:=he
    obtain ⟨qb,qo,rfl,hrop⟩:=hrp (by intro h;rw [h] at hlt;simp at hlt)
    obtain ⟨e0a,e0c,hc0,hXI⟩:=vg (hro ik xs[ik] (by simp [hltx]))
    have hpa:=hrop ik g.params[ik] (by simp [hlt])
    have q0':=jb hBel hpa.1.1
    have q1':=jb hBel hpa.2.1
    have q2':=jb hBel hpa.2.2.1
    have hbp:=k9 wr _ q1'
    have hfit:=fun hq=>argFit HTy.out HLn.out ik hltx hlt hq
    have hqk:=(HGp.out.2 g.params[ik] (List.getElem_mem _))
    have hfs:=yq (fun l (x:z8)=>if x.kind=2 then aput l x.name x.len else l) ([]:List (ByteArray×Int)) g.params ik hlt
    have hHA:=HHA.out xs[ik] (List.getElem_mem _)
    have HFs:=k8 hfs
    have HSn:=k8 hsn
    have HFit:=k8 hfit
    have HQk:=k8 hqk
    have He0w:=k8 hc0
    have HXI:=k8 hXI
    have HIk:=k8 hltx
    have HEX:=k8 hHA
    have HLnx:=k8 hlnx
    clear hr hrp hro hrop hc0 hpa hfs hsn hfit hqk hXI hHA hlnx hmlen
    generalize xs[ik]=e0 at *
    generalize g.params[ik]=q at *
    generalize E.args F vars (xs.take ik) (g.params.take ik) ([],[],st)=ya at *
    have hBx:=(wu wr.heap.size wr).alloc (wo _) (.cells #[.string q.name,.int .i64 q.kind,.int .i64 q.len] 56)
    have hQc:=Env.box HOk.out hRr (cs:=#[.string q.name,.int .i64 q.kind,.int .i64 q.len]) (t:=56) (by decide)
    have HQ0:=k8 (show (wr.alloc (.cells #[.string q.name,.int .i64 q.kind,.int .i64 q.len] 56)).cell? ⟨wr.heap.size,0,none⟩=some (.string q.name) by simp)
    have HQ2:=k8 (show (wr.alloc (.cells #[.string q.name,.int .i64 q.kind,.int .i64 q.len] 56)).cell? ⟨wr.heap.size,2,none⟩=some (.int .i64 q.len) by simp)
    have hKx:E.rk [nvm,npm] w2 (wr.alloc (.cells #[.string q.name,.int .i64 q.kind,.int .i64 q.len] 56)):=hKr.trans (j8 hBx)
    have hRx:E.run ya.2.2 (wr.alloc (.cells #[.string q.name,.int .i64 q.kind,.int .i64 q.len] 56)):=vh.next hRr hBx
    have hFx:zx E.bk E.wb E.ob j nfb nvm npm ya.1 ya.2.1 (wr.alloc (.cells #[.string q.name,.int .i64 q.kind,.int .i64 q.len] 56)):=zx.next (M:=[]) hFr (j8 (bk:=E.bk) (wb:=E.wb) (ob:=E.ob) hBx) (by simp) (by simp) (by simp)
    have hcl:E.fr F vars (wr.alloc (.cells #[.string q.name,.int .i64 q.kind,.int .i64 q.len] 56)):=zx.next HFc2.out hKx (by simp;omega) (by simp;omega) (by simp;omega)
    have hXc2:Calm E.bk E.wb (wr.alloc (.cells #[.string q.name,.int .i64 q.kind,.int .i64 q.len] 56)) wh:=by
     have h1:Calm E.bk E.wb w2 wh:=by
      refine Calm.next (ob:=E.ob) (M:=[]) ?_ (j8 (bk:=E.bk) (wb:=E.wb) HBW2.out) (by simp)
      rw [← hwh];rw [← hwh] at HXc;exact HXc.out
     exact h1.next hKx (by simp;omega)
    have hX3:(wr.alloc (.cells #[.string q.name,.int .i64 q.kind,.int .i64 q.len] 56)).cell? ⟨wh,3,none⟩=some (.slice (some ⟨xb,xo,none⟩) xs.length c):=by
     have h1:Calm E.bk E.wb w2 wh:=by
      refine Calm.next (ob:=E.ob) (M:=[]) ?_ (j8 (bk:=E.bk) (wb:=E.wb) HBW2.out) (by simp)
      rw [← hwh];rw [← hwh] at HXc;exact HXc.out
     exact h1.cell hKx (by simp;omega) (jb HBW2.out HX3.out)
    have HXc2:=k8 hXc2
    have HX3:=k8 hX3
    have HQc:=k8 hQc
    have HKx:=k8 hKx
    have HRr:=k8 hRx
    have HNx:=k8 hFx
    have HCl:=k8 hcl
    have HBx:=k8 (hBel.trans (hBx.mono hBel.size))
    have HPr:=k8 hPr
    have HOr:=k8 hOr
    clear hKr hRr hFr hPr hOr hBel hBx hQc hKx hRx hFx hcl hXc2 hX3
    by_cases hq2:q.kind=2
    ·obtain ⟨nn,hn1,hn2⟩:=HFit.out hq2
     have hql:=HQk.out.2.2 hq2
     obtain ⟨lv,hlm,hle⟩:=HCl.out.pmap
     have hrr:∃ rr,aget F.ptrs e0.name=some rr∧(rr.len:Int)=nn:=by
      have e1:aget (F.ptrs.map fun x=>(x.1,(x.2.len:Int))) e0.name=(aget F.ptrs e0.name).map (fun r:Ref=>(r.len:Int)):=ka (fun r:Ref=>(r.len:Int)) F.ptrs e0.name
      rw [HOk.out.fit.ptr,hn1] at e1
      cases ho:aget F.ptrs e0.name with
      | none=>rw [ho] at e1;simp at e1
      | some r=>rw [ho] at e1;exact ⟨r,rfl,by simpa using e1.symm⟩
     obtain ⟨rr,hra,hrl⟩:=hrr
     obtain ⟨vv,hvv,hab⟩:=(RefsAt.get (w:=wr) (b:=F.pm) hle e0.name).2 rr hra
     obtain ⟨rb,rc,rfl,hbk,hrc⟩:=absV_some hab
     have HPv:Hid ((aget lv e0.name).getD (.slice none 0 0)=.slice (some ⟨rb,rr.off,none⟩) rr.len rc):=by show _=_;rw [hvv];rfl
     have HPm:=k8 hlm
     have HQl:=k8 (show 1≤q.len∧q.len≤rr.len from ⟨hql.1,by omega⟩)
     have HRc:=k8 hrc
     have hmem:=aget_mem hra
     obtain ⟨tt,htm⟩:=hmem
     have hok:=HOk.out.fit.ok _ htm
     simp only at hok
     have hab2:absV E.bk (.slice (some ⟨rb,rr.off,none⟩) q.len.toNat rc)=some ⟨rr.row,rr.off,q.len.toNat⟩:=absV_mk (r:=⟨rr.row,rr.off,q.len.toNat⟩) HOk.out.fix.nd hbk (by show q.len.toNat≤rc;have:=HQl.out;omega)
     have HAb:=k8 hab2
     have hstep:argStep E F vars e0 q ya=(ya.1,aput ya.2.1 q.name ⟨rr.row,rr.off,q.len.toNat⟩,ya.2.2):=by
      unfold argStep
      rw [if_pos hq2]
      unfold refAt
      rw [hra]
      rfl
     have HSt:=k8 hstep
     have HOk2:=k8 hok
     have HN3:=k8 HNx.out.cells.2.2.2
     have HF3:=k8 HCl.out.cells.2.2.2
     have He0:=k8 (show (wr.alloc (.cells #[.string q.name,.int .i64 q.kind,.int .i64 q.len] 56)).cell? ⟨xb,xo+ik * 4,none⟩=some (.int .i64 e0.kind)∧(wr.alloc (.cells #[.string q.name,.int .i64 q.kind,.int .i64 q.len] 56)).cell? ⟨xb,xo+ik * 4+1,none⟩=some (.int .u64 e0.num)∧(wr.alloc (.cells #[.string q.name,.int .i64 q.kind,.int .i64 q.len] 56)).cell? ⟨xb,xo+ik * 4+2,none⟩=some (.string e0.name)∧(wr.alloc (.cells #[.string q.name,.int .i64 q.kind,.int .i64 q.len] 56)).cell? ⟨xb,xo+ik * 4+3,none⟩=some (.slice e0a e0.args.length e0c) from ⟨jb HBx.out He0w.out.1,jb HBx.out He0w.out.2.1,jb HBx.out He0w.out.2.2.1,jb HBx.out He0w.out.2.2.2⟩)
     have tq:(q.kind == 2)=true:=by simpa using hq2
     have HQ2k:=k8 hq2
     clear hn1 hn2 hql hlm hle hra hrl hvv hab hbk hrc htm hok hab2 hstep hq2
     go_wp2_with fail
     clear q0' q1' q2'
     generalize hX:wr.heap.size=X at *
     refine je zi [.is (.pointer (some ⟨nfb,0,none⟩)),.is (.pointer (some ⟨nfb,0,none⟩)),.is (.pointer (some ⟨nfb,3,none⟩)),.is (.map (some npm)),.is (.pointer (some ⟨X,0,none⟩)),.is (.string q.name),.is (.pointer (some ⟨F.fb,0,none⟩)),.is (.pointer (some ⟨F.fb,0,none⟩)),.is (.pointer (some ⟨F.fb,3,none⟩)),.is (.map (some F.pm)),.is (.pointer (some ⟨wh,3,none⟩)),.is (.slice (some ⟨xb,xo,none⟩) xs.length c),.is (.int .i64 ik),.is (.pointer (some ⟨xb,xo+ik * 4,none⟩)),.is (.pointer (some ⟨xb,xo+ik * 4+2,none⟩)),.is (.string e0.name),.is (.slice (some ⟨rb,rr.off,none⟩) rr.len rc),.is (.pointer (some ⟨X,2,none⟩)),.is (.int .i64 q.len),.is (.slice (some ⟨rb,rr.off,none⟩) q.len.toNat rc)] (by kernel_rfl) 20 (by decide) (by kernel_rfl) _ rfl ?_ ?_
     ·refine ⟨?_,?_,?_,?_,?_,?_,?_,?_,?_,?_,?_,?_,?_,?_,?_,?_,?_,?_,?_,?_,trivial⟩
      ·refine jc rfl rfl rfl fun x1 y hB hF hD=>?_
       have e6:slot x1 6=.pointer (some ⟨nfb,0,none⟩):=hF.at 6 rfl
       clear hB hF
       simp only [execOp,ja,e6]
       first|rfl|(go_simp;try rfl)
      ·refine jc rfl rfl rfl fun x1 y hB hF hD=>?_
       obtain ⟨d0,-⟩:=hD
       have e51:slot x1 51=.pointer (some ⟨nfb,0,none⟩):=d0 rfl
       clear hB hF
       simp only [execOp,ja,e51]
       first|rfl|(go_simp;try rfl)
      ·refine jc rfl rfl rfl fun x1 y hB hF hD=>?_
       obtain ⟨d0,-⟩:=hD
       have e52:slot x1 52=.pointer (some ⟨nfb,0,none⟩):=d0 rfl
       clear hB hF
       simp only [execOp,ja,e52]
       first|rfl|(go_simp;try rfl)
      ·refine jc rfl rfl rfl fun x1 y hB hF hD=>?_
       obtain ⟨d0,-⟩:=hD
       have e53:slot x1 53=.pointer (some ⟨nfb,3,none⟩):=d0 rfl
       have hc:y.cell? ⟨nfb,3,none⟩=some (.map (some npm)):=jb hB HN3.out
       clear hB hF
       simp only [execOp,ja,e53]
       first|rfl|(go_simp;try rfl)
      ·refine jc rfl rfl rfl fun x1 y hB hF hD=>?_
       have e8:slot x1 8=.pointer (some ⟨X,0,none⟩):=hF.at 8 rfl
       clear hB hF
       simp only [execOp,ja,e8]
       first|rfl|(go_simp;try rfl)
      ·refine jc rfl rfl rfl fun x1 y hB hF hD=>?_
       obtain ⟨d0,-⟩:=hD
       have e55:slot x1 55=.pointer (some ⟨X,0,none⟩):=d0 rfl
       have hc:y.cell? ⟨X,0,none⟩=some (.string q.name):=jb hB HQ0.out
       clear hB hF
       simp only [execOp,ja,e55]
       first|rfl|(go_simp;try rfl)
      ·refine jc rfl rfl rfl fun x1 y hB hF hD=>?_
       have e0:slot x1 0=.pointer (some ⟨F.fb,0,none⟩):=hF.at 0 rfl
       clear hB hF
       simp only [execOp,ja,e0]
       first|rfl|(go_simp;try rfl)
      ·refine jc rfl rfl rfl fun x1 y hB hF hD=>?_
       obtain ⟨d0,-⟩:=hD
       have e57:slot x1 57=.pointer (some ⟨F.fb,0,none⟩):=d0 rfl
       clear hB hF
       simp only [execOp,ja,e57]
       first|rfl|(go_simp;try rfl)
      ·refine jc rfl rfl rfl fun x1 y hB hF hD=>?_
       obtain ⟨d0,-⟩:=hD
       have e58:slot x1 58=.pointer (some ⟨F.fb,0,none⟩):=d0 rfl
       clear hB hF
       simp only [execOp,ja,e58]
       first|rfl|(go_simp;try rfl)
      ·refine jc rfl rfl rfl fun x1 y hB hF hD=>?_
       obtain ⟨d0,-⟩:=hD
       have e59:slot x1 59=.pointer (some ⟨F.fb,3,none⟩):=d0 rfl
       have hc:y.cell? ⟨F.fb,3,none⟩=some (.map (some F.pm)):=jb hB HF3.out
       clear hB hF
       simp only [execOp,ja,e59]
       first|rfl|(go_simp;try rfl)
      ·refine jc rfl rfl rfl fun x1 y hB hF hD=>?_
       have e3:slot x1 3=.pointer (some ⟨wh,0,none⟩):=hF.at 3 rfl
       clear hB hF
       simp only [execOp,ja,e3]
       first|rfl|(go_simp;try rfl)
      ·refine jc rfl rfl rfl fun x1 y hB hF hD=>?_
       obtain ⟨d0,-⟩:=hD
       have e61:slot x1 61=.pointer (some ⟨wh,3,none⟩):=d0 rfl
       have hc:y.cell? ⟨wh,3,none⟩=some (.slice (some ⟨xb,xo,none⟩) xs.length c):=jb hB HX3.out
       clear hB hF
       simp only [execOp,ja,e61]
       first|rfl|(go_simp;try rfl)
      ·refine jc rfl rfl rfl fun x1 y hB hF hD=>?_
       have e7:slot x1 7=.int .i64 ik:=hF.at 7 rfl
       clear hB hF
       simp only [execOp,ja,e7]
       first|rfl|(go_simp;try rfl)
      ·refine jc rfl rfl rfl fun x1 y hB hF hD=>?_
       obtain ⟨d0,d1,-⟩:=hD
       have e62:slot x1 62=.slice (some ⟨xb,xo,none⟩) xs.length c:=d0 rfl
       have e63:slot x1 63=.int .i64 ik:=d1 rfl
       have hik:ik<xs.length:=HIk.out
       clear hB hF
       simp only [execOp,ja,e62,e63]
       first|rfl|(go_simp;try rfl)
      ·refine jc rfl rfl rfl fun x1 y hB hF hD=>?_
       obtain ⟨d0,-⟩:=hD
       have e64:slot x1 64=.pointer (some ⟨xb,xo+ik * 4,none⟩):=d0 rfl
       clear hB hF
       simp only [execOp,ja,e64]
       first|rfl|(go_simp;try rfl)
      ·refine jc rfl rfl rfl fun x1 y hB hF hD=>?_
       obtain ⟨d0,-⟩:=hD
       have e65:slot x1 65=.pointer (some ⟨xb,xo+ik * 4+2,none⟩):=d0 rfl
       have hc:y.cell? ⟨xb,xo+ik * 4+2,none⟩=some (.string e0.name):=jb hB He0.out.2.2.1
       clear hB hF
       simp only [execOp,ja,e65]
       first|rfl|(go_simp;try rfl)
      ·refine jc rfl rfl rfl fun x1 y hB hF hD=>?_
       obtain ⟨d0,d1,-⟩:=hD
       have e1:slot x1 60=.map (some F.pm):=d0 rfl
       have e2:slot x1 66=.string e0.name:=d1 rfl
       have hrun:=xr keyS (j5.below HPm.out hB) Tryz.underlying71 (zeroS y) e0.name false
       rw [if_neg (by decide),HPv.out] at hrun
       clear hB hF
       simp only [execOp,ja,e1,e2]
       simp [hrun,Result.andThen]
      ·refine jc rfl rfl rfl fun x1 y hB hF hD=>?_
       have e8:slot x1 8=.pointer (some ⟨X,0,none⟩):=hF.at 8 rfl
       clear hB hF
       simp only [execOp,ja,e8]
       first|rfl|(go_simp;try rfl)
      ·refine jc rfl rfl rfl fun x1 y hB hF hD=>?_
       obtain ⟨d0,-⟩:=hD
       have e68:slot x1 68=.pointer (some ⟨X,2,none⟩):=d0 rfl
       have hc:y.cell? ⟨X,2,none⟩=some (.int .i64 q.len):=jb hB HQ2.out
       clear hB hF
       simp only [execOp,ja,e68]
       first|rfl|(go_simp;try rfl)
      ·refine jc rfl rfl rfl fun x1 y hB hF hD=>?_
       obtain ⟨d0,d1,-⟩:=hD
       have e67:slot x1 67=.slice (some ⟨rb,rr.off,none⟩) rr.len rc:=d0 rfl
       have e69:slot x1 69=.int .i64 q.len:=d1 rfl
       have hl1:1≤q.len:=HQl.out.1
       have hl2:q.len≤rr.len:=HQl.out.2
       have hl3:rr.len≤rc:=HRc.out
       have g67:=jh e67
       have g69:=jh e69
       clear hB hF e67 e69
       simp only [execOp]
       simp [go_sem,g67,g69]
       omega
     ·intro x1 y hB hF hP
      obtain ⟨p0,p1,p2,p3,p4,p5,p6,p7,p8,p9,p10,p11,p12,p13,p14,p15,p16,p17,p18,p19,-⟩:=hP
      have hx:=jj hF [(51,.pointer (some ⟨nfb,0,none⟩)),(52,.pointer (some ⟨nfb,0,none⟩)),(53,.pointer (some ⟨nfb,3,none⟩)),(54,.map (some npm)),(55,.pointer (some ⟨X,0,none⟩)),(56,.string q.name),(57,.pointer (some ⟨F.fb,0,none⟩)),(58,.pointer (some ⟨F.fb,0,none⟩)),(59,.pointer (some ⟨F.fb,3,none⟩)),(60,.map (some F.pm)),(61,.pointer (some ⟨wh,3,none⟩)),(62,.slice (some ⟨xb,xo,none⟩) xs.length c),(63,.int .i64 ik),(64,.pointer (some ⟨xb,xo+ik * 4,none⟩)),(65,.pointer (some ⟨xb,xo+ik * 4+2,none⟩)),(66,.string e0.name),(67,.slice (some ⟨rb,rr.off,none⟩) rr.len rc),(68,.pointer (some ⟨X,2,none⟩)),(69,.int .i64 q.len),(70,.slice (some ⟨rb,rr.off,none⟩) q.len.toNat rc)] rfl ⟨p0,p1,p2,p3,p4,p5,p6,p7,p8,p9,p10,p11,p12,p13,p14,p15,p16,p17,p18,p19,trivial⟩
      have HKy:=k8 (HKx.out.trans (j8 hB))
      have HRy:Hid (E.run ya.2.2 y):=vh.next HRr.out hB
      have hNy:zx E.bk E.wb E.ob j nfb nvm npm ya.1 ya.2.1 y:=zx.next (M:=[]) HNx.out (j8 (bk:=E.bk) (wb:=E.wb) (ob:=E.ob) hB) (by simp) (by simp) (by simp)
      have HNy:=k8 hNy
      clear hB hF hNy p0 p1 p2 p3 p4 p5 p6 p7 p8 p9 p10 p11 p12 p13 p14 p15 p16 p17 p18 p19
      subst hx
      obtain ⟨lv2,hl2,he2⟩:=HNy.out.pmap
      simp only [puts,Act.put,we,wg,wi,wj,wk]
      go_wp2_with (at_mapUpdate;go_loud (refine vd rfl _ _ _ _ rfl keyS 26 Tryz.underlying71 rfl hl2 _ _ rfl rfl ?_))
      intro w4 hm4 hg4 _
      have hF4:=HNy.out.putP he2 HAb.out hm4 hg4
      have hR4:E.run ya.2.2 w4:=vh.other HOk.out.fix HRy.out HNy.out.pcalm HNy.out.lo.2.2 hg4
      have hK4:E.rk [nvm,npm] w2 w4:=HKy.out.trans (rk_grown hg4 (.inl (by simp)))
      have HF4:=k8 hF4
      have HR4:=k8 hR4
      have HK4:=k8 hK4
      clear hm4 hg4 hF4 hR4 hK4 he2 hl2
      go_wp2_with fail
      go_roundw
      case rel=>
       refine ⟨ik+1,by omega,by go_num,HK4.out,?_⟩
       rw [HSn.out,HSt.out]
       refine ⟨HR4.out,HF4.out,?_,?_⟩
       ·rw [HFs.out,if_pos HQ2k.out,← HPr.out,← kz (fun r:Ref=>(r.len:Int))]
        simp only
        rw [Int.toNat_of_nonneg (by have:=HQl.out;omega)]
       ·have key:∀ (l:Refs),(∀ x∈l,∃ n,E.shp[x.2.row]?=some n∧x.2.off+x.2.len≤n∧1≤x.2.len)→∀ x∈aput l q.name (⟨rr.row,rr.off,q.len.toNat⟩:Ref),∃ n,E.shp[x.2.row]?=some n∧x.2.off+x.2.len≤n∧1≤x.2.len:=by
         have hnew:∃ n,E.shp[rr.row]?=some n∧rr.off+q.len.toNat≤n∧1≤q.len.toNat:=by
          obtain ⟨n,h1,h2,h3⟩:=HOk2.out
          have:=HQl.out
          exact ⟨n,h1,by omega,by omega⟩
         intro l
         induction l with
         | nil=>intro _ x hx;simp only [aput,wy] at hx;subst hx;exact hnew
         | cons z l ih=>
          intro hl x hx
          obtain ⟨za,zu⟩:=z
          rw [aput] at hx
          split at hx
          ·rcases gh.1 hx with rfl|hx
           ·exact hnew
           ·exact hl x (by simp [hx])
          ·rcases gh.1 hx with rfl|hx
           ·exact hl _ (by simp)
           ·exact ih (fun z hz=>hl z (by simp [hz])) x hx
        exact key _ HOr.out
      case measure=>simp [intOf];omega
    ·have tq:(q.kind == 2)=false:=by simpa using hq2
     obtain ⟨⟨V0,S0⟩,hVS⟩:∃ r,E.ev F vars e0 ya.2.2=r:=⟨_,rfl⟩
     have hstep:argStep E F vars e0 q ya=(aput ya.1 q.name V0,ya.2.1,S0):=by
      unfold argStep
      rw [if_neg hq2,hVS]
     have HSt:=k8 hstep
     have HLen:Hid ((E.ev F vars e0 ya.2.2).2.opened.length≤1000000):=by
      show _≤_
      have h1:=HLnx.out
      rw [hstep] at h1
      rw [hVS]
      have h2:=exSs_mono (callT_mono aluF E.p E.secs j) (p:=E.p) (i:=j) (secs:=E.secs) (alu:=aluF) (wtSs g.body) (E.args F vars xs g.params ([],[],st)).2.1 g.body ((E.args F vars xs g.params ([],[],st)).1,0,(E.args F vars xs g.params ([],[],st)).2.2) (wo _)
      have h3:=HLen0.out
      have h4:=HRR.out
      rw [HEv.out nfb nvm npm] at h4
      rw [← h4] at h3
      exact wx h1 (wx h2 h3)
     have HVS:=k8 hVS
     have HNq:Hid (¬ q.kind=2):=hq2
     have hBel2:∀ y,E.rk [] (wr.alloc (.cells #[.string q.name,.int .i64 q.kind,.int .i64 q.len] 56)) y→Below E.w0.heap.size E.w0 y:=fun y k=>Env.below HOk.out HBx.out k
     have hFr2:∀ y,E.rk [] (wr.alloc (.cells #[.string q.name,.int .i64 q.kind,.int .i64 q.len] 56)) y→E.fr F vars y:=fun y k=>Env.frame HCl.out k
     have HBel:=k8 hBel2
     have HFr:=k8 hFr2
     have HN2:=k8 HNx.out.cells.2.2.1
     have HNc:=k8 HNx.out.fcalm
     have HXc:=HXc2
     obtain ⟨ys,hys⟩:∃ ys,ya.2.2=ys:=⟨_,rfl⟩
     have HYs:=k8 hys
     rw [hys] at HVS HRr HLen
     clear hstep hVS hq2 hBel2 hFr2 hys
     go_wp2_with fail
     clear q0' q1' q2'
     generalize hX:wr.heap.size=X at *
     refine yg zi (rkR E.bk E.wb E.ob []) [.is (.pointer (some ⟨nfb,0,none⟩)),.is (.pointer (some ⟨nfb,0,none⟩)),.is (.pointer (some ⟨nfb,2,none⟩)),.is (.map (some nvm)),.is (.pointer (some ⟨X,0,none⟩)),.is (.string q.name),.is (.pointer (some ⟨F.fb,0,none⟩)),.is (.pointer (some ⟨wh,3,none⟩)),.is (.slice (some ⟨xb,xo,none⟩) xs.length c),.is (.int .i64 ik),.is (.pointer (some ⟨xb,xo+ik * 4,none⟩)),.is (.agg #[.int .i64 e0.kind,.int .u64 e0.num,.string e0.name,.slice e0a e0.args.length e0c]),.is (.int .u64 V0)] (fun b y=>match b with|true=>E.run S0 y∧U64 V0|false=>E.run ys y) 12 (vh.next HRr.out ((wu _ _).drew)) (by kernel_rfl) 13 (by decide) (by decide) (by kernel_rfl) _ rfl ?_ ?_
     ·refine ⟨?_,?_,?_,?_,?_,?_,?_,?_,?_,?_,?_,?_,?_,trivial⟩
      ·refine jz rfl rfl rfl rfl fun x1 y hB hF hD=>?_
       have e6:slot x1 6=.pointer (some ⟨nfb,0,none⟩):=hF.at 6 rfl
       clear hB hF
       simp only [execOp,ja,e6]
       first|rfl|(go_simp;try rfl)
      ·refine jz rfl rfl rfl rfl fun x1 y hB hF hD=>?_
       obtain ⟨d0,-⟩:=hD
       have e71:slot x1 71=.pointer (some ⟨nfb,0,none⟩):=d0 rfl
       clear hB hF
       simp only [execOp,ja,e71]
       first|rfl|(go_simp;try rfl)
      ·refine jz rfl rfl rfl rfl fun x1 y hB hF hD=>?_
       obtain ⟨d0,-⟩:=hD
       have e72:slot x1 72=.pointer (some ⟨nfb,0,none⟩):=d0 rfl
       clear hB hF
       simp only [execOp,ja,e72]
       first|rfl|(go_simp;try rfl)
      ·refine jz rfl rfl rfl rfl fun x1 y hB hF hD=>?_
       obtain ⟨d0,-⟩:=hD
       have e73:slot x1 73=.pointer (some ⟨nfb,2,none⟩):=d0 rfl
       have hc:y.cell? ⟨nfb,2,none⟩=some (.map (some nvm)):=HNc.out.cell hB (by simp) HN2.out
       clear hB hF
       simp only [execOp,ja,e73]
       first|rfl|(go_simp;try rfl)
      ·refine jz rfl rfl rfl rfl fun x1 y hB hF hD=>?_
       have e8:slot x1 8=.pointer (some ⟨X,0,none⟩):=hF.at 8 rfl
       clear hB hF
       simp only [execOp,ja,e8]
       first|rfl|(go_simp;try rfl)
      ·refine jz rfl rfl rfl rfl fun x1 y hB hF hD=>?_
       obtain ⟨d0,-⟩:=hD
       have e75:slot x1 75=.pointer (some ⟨X,0,none⟩):=d0 rfl
       have hc:y.cell? ⟨X,0,none⟩=some (.string q.name):=HQc.out.cell hB (by simp) HQ0.out
       clear hB hF
       simp only [execOp,ja,e75]
       first|rfl|(go_simp;try rfl)
      ·refine jz rfl rfl rfl rfl fun x1 y hB hF hD=>?_
       have e0:slot x1 0=.pointer (some ⟨F.fb,0,none⟩):=hF.at 0 rfl
       clear hB hF
       simp only [execOp,ja,e0]
       first|rfl|(go_simp;try rfl)
      ·refine jz rfl rfl rfl rfl fun x1 y hB hF hD=>?_
       have e3:slot x1 3=.pointer (some ⟨wh,0,none⟩):=hF.at 3 rfl
       clear hB hF
       simp only [execOp,ja,e3]
       first|rfl|(go_simp;try rfl)
      ·refine jz rfl rfl rfl rfl fun x1 y hB hF hD=>?_
       obtain ⟨d0,-⟩:=hD
       have e78:slot x1 78=.pointer (some ⟨wh,3,none⟩):=d0 rfl
       have hc:y.cell? ⟨wh,3,none⟩=some (.slice (some ⟨xb,xo,none⟩) xs.length c):=HXc.out.cell hB (by simp) HX3.out
       clear hB hF
       simp only [execOp,ja,e78]
       first|rfl|(go_simp;try rfl)
      ·refine jz rfl rfl rfl rfl fun x1 y hB hF hD=>?_
       have e7:slot x1 7=.int .i64 ik:=hF.at 7 rfl
       clear hB hF
       simp only [execOp,ja,e7]
       first|rfl|(go_simp;try rfl)
      ·refine jz rfl rfl rfl rfl fun x1 y hB hF hD=>?_
       obtain ⟨d0,d1,-⟩:=hD
       have e79:slot x1 79=.slice (some ⟨xb,xo,none⟩) xs.length c:=d0 rfl
       have e80:slot x1 80=.int .i64 ik:=d1 rfl
       have hik:ik<xs.length:=HIk.out
       clear hB hF
       simp only [execOp,ja,e79,e80]
       first|rfl|(go_simp;try rfl)
      ·refine jz rfl rfl rfl rfl fun x1 y hB hF hD=>?_
       obtain ⟨d0,-⟩:=hD
       have e81:slot x1 81=.pointer (some ⟨xb,xo+ik * 4,none⟩):=d0 rfl
       have h0:y.cell? ⟨xb,xo+ik * 4,none⟩=some (.int .i64 e0.kind):=jb (HBel.out y hB) He0w.out.1
       have h1:y.cell? ⟨xb,xo+ik * 4+1,none⟩=some (.int .u64 e0.num):=jb (HBel.out y hB) He0w.out.2.1
       have h2:y.cell? ⟨xb,xo+ik * 4+2,none⟩=some (.string e0.name):=jb (HBel.out y hB) He0w.out.2.2.1
       have h3:y.cell? ⟨xb,xo+ik * 4+3,none⟩=some (.slice e0a e0.args.length e0c):=jb (HBel.out y hB) He0w.out.2.2.2
       clear hB hF
       simp only [execOp,ja,e81]
       first|rfl|(go_simp;try rfl)
      ·refine stepC_turn (f:=34) rfl rfl rfl fun x1 y hJ hB hF hD=>⟨#[.pointer (some ⟨F.fb,0,none⟩),.agg #[.int .i64 e0.kind,.int .u64 e0.num,.string e0.name,.slice e0a e0.args.length e0c]],?_,?_⟩
       ·obtain ⟨d0,d1,-⟩:=hD
        have e77:slot x1 77=.pointer (some ⟨F.fb,0,none⟩):=d0 rfl
        have e82:slot x1 82=.agg #[.int .i64 e0.kind,.int .u64 e0.num,.string e0.name,.slice e0a e0.args.length e0c]:=d1 rfl
        have g77:=jh e77
        have g82:=jh e82
        clear hB hF e77 e82
        simp only [execOp]
        simp [go_sem,g77,g82]
       ·refine (HEX.out _ y _ (HBel.out y hB) hJ (HFr.out y hB) HXI.out HLen.out).mono ?_
        rintro e w' ⟨rfl,hk,hr,hu⟩
        rw [HVS.out] at hr hu
        exact ⟨hk,⟨hr,hu⟩,_,rfl,by rw [HVS.out];rfl⟩
     ·intro x1 y hB hF hP hJ
      obtain ⟨p0,p1,p2,p3,p4,p5,p6,p7,p8,p9,p10,p11,p12,-⟩:=hP
      have hx:=jj hF [(71,.pointer (some ⟨nfb,0,none⟩)),(72,.pointer (some ⟨nfb,0,none⟩)),(73,.pointer (some ⟨nfb,2,none⟩)),(74,.map (some nvm)),(75,.pointer (some ⟨X,0,none⟩)),(76,.string q.name),(77,.pointer (some ⟨F.fb,0,none⟩)),(78,.pointer (some ⟨wh,3,none⟩)),(79,.slice (some ⟨xb,xo,none⟩) xs.length c),(80,.int .i64 ik),(81,.pointer (some ⟨xb,xo+ik * 4,none⟩)),(82,.agg #[.int .i64 e0.kind,.int .u64 e0.num,.string e0.name,.slice e0a e0.args.length e0c]),(83,.int .u64 V0)] rfl ⟨p0,p1,p2,p3,p4,p5,p6,p7,p8,p9,p10,p11,p12,trivial⟩
      obtain ⟨hr0,hu0⟩:E.run S0 y∧U64 V0:=hJ
      have HRy:=k8 hr0
      have HUy:=k8 hu0
      have HKy:=k8 (HKx.out.trans (hB.mono (by simp)))
      have hNy:zx E.bk E.wb E.ob j nfb nvm npm ya.1 ya.2.1 y:=zx.next (M:=[]) HNx.out hB (by simp) (by simp) (by simp)
      have HNy:=k8 hNy
      clear hB hF hNy hr0 hu0 p0 p1 p2 p3 p4 p5 p6 p7 p8 p9 p10 p11 p12
      subst hx
      simp only [puts,Act.put,we,wg,wi,wj,wk]
      go_wp2_with (at_mapUpdate;go_loud (refine vd rfl _ _ _ _ rfl keyS 35 Tryz.underlying77 rfl HNy.out.vmap _ _ rfl rfl ?_))
      intro w4 hm4 hg4 _
      have hF4:=HNy.out.putV hm4 hg4 HUy.out
      have hR4:E.run S0 w4:=vh.other HOk.out.fix HRy.out HNy.out.vcalm HNy.out.lo.2.1 hg4
      have hK4:E.rk [nvm,npm] w2 w4:=HKy.out.trans (rk_grown hg4 (.inl (by simp)))
      have HF4:=k8 hF4
      have HR4:=k8 hR4
      have HK4:=k8 hK4
      clear hm4 hg4 hF4 hR4 hK4
      go_wp2_with fail
      go_roundw
      case rel=>
       refine ⟨ik+1,by omega,by go_num,HK4.out,?_⟩
       rw [HSn.out,HSt.out]
       refine ⟨HR4.out,HF4.out,?_,HOr.out⟩
       rw [HFs.out,if_neg HNq.out]
       exact HPr.out
      case measure=>simp [intOf];omega
   ·have hkk:ik=g.params.length:=by omega
    subst hkk
    rw [ww (by have:=HLn.out;omega),ww (wo _)] at hRr hFr hPr hOr
    generalize hya:E.args F vars xs g.params ([],[],st)=ya at *
    have hev:=HEv.out nfb nvm npm
    rw [HRR.out] at hev
    have hok2:E.ok ⟨j,g,nfb,nvm,npm,ya.2.1⟩:=⟨HOk.out.fix,⟨HG.out,hPr,hOr⟩,HOk.out.fine,HOk.out.wt⟩
    have hBel:Below E.w0.heap.size E.w0 wr:=HBE2.out.trans (hKr.below (B:=E.w0.heap.size) HBE2.out.size (fun b hb=>(HOk.out.fix.lo b hb).1) HOk.out.fix.wlo.1 (wx HOk.out.fix.wlo.1 (Nat.le_of_lt HOk.out.fix.wlo.2.1)) (fun b hb=>by
     have h1:=HBW.out.size
     simp at h1
     simp only [gh,List.not_mem_nil,or_false] at hb
     rcases hb with rfl|rfl<;>omega))
    have hl3:(E.ex ⟨j,g,nfb,nvm,npm,ya.2.1⟩ g.body (ya.1,0,ya.2.2)).2.2.opened.length≤1000000:=by
     have:=HLen0.out
     rw [hev] at this
     exact this
    obtain ⟨pa0,pc0,pa1,pc1b,w10,w11,hSrc2⟩:=hRr.cells
    obtain ⟨_,hsf2⟩:=srcIs_at hSrc2
    obtain ⟨_,_,he,_,_,hrf2⟩:=hsf2
    simp only [Value.slice.injEq] at he
    obtain ⟨rfl,-,rfl⟩:=he
    obtain ⟨fb2,fo2,rfl,hrow2⟩:=hrf2 (by intro h;rw [h] at hjl;simp at hjl)
    obtain ⟨_,_,hb2,hbc2,-,-,-,k3,-,hbd2⟩:=funIs_at (hrow2 j g HG.out)
    have HBo:=k8 (HBd.out ⟨j,g,nfb,nvm,npm,ya.2.1⟩ HJi.out hok2 ya.1 _ wr ya.2.2 hBel hRr hFr hbd2 hl3)
    have hfrc:E.fr F vars wr:=zx.next HFc2.out hKr (by simp;omega) (by simp;omega) (by simp;omega)
    have f0:=hfrc.cells.1
    have g3':=jb hBel k3
    have HRk2:=k8 (HRk.out.trans ((j8 HBW2.out).next hKr (fun b hb=>by
     simp only [gh,List.not_mem_nil,or_false] at hb
     right
     rcases hb with rfl|rfl<;>(simp;omega))))
    have HEv2:=k8 hev
    have HSz:Hid (w.heap.size≤nvm):=by show _≤_;omega
    clear hRr hFr hPr hOr hok2 hl3 w10 hfrc hev hKr hBel hSrc2 hrf2 hrow2 k3 hbd2
    generalize E.ex ⟨j,g,nfb,nvm,npm,ya.2.1⟩ g.body (ya.1,0,ya.2.2)=rb at *
    go_wp2_with fail
    refine HBo.out.mono ?_
    rintro e w5 ⟨rfl,hk5,hr5,-,hu5⟩
    have HK5:=k8 (HRk2.out.next hk5 (fun b hb=>by
     simp only [wy] at hb
     subst hb
     exact .inr HSz.out))
    have HR5:=k8 hr5
    have HU5:=k8 hu5
    clear hk5 hr5 hu5 HBo
    go_wp2
    go_ret
    rw [HEv2.out]
    exact ⟨rfl,HK5.out,HR5.out,HU5.out⟩
end
section
open Go.RowKit
theorem wpList_ins {P:Program} {K:Type} [BEq K] [LawfulBEq K] {kt:TypeId} {κ:K→Value} {w:World} {b:Nat} {l:List (K×Value)} {ops:Array Oper} {rest:List Oper} {o:Oper} {a:Act} {Q:Exit→Act→World→Prop}
  (hgd:o.guard=none) (m x y:Operand) (t:TypeId) (hop:o.op=Op.insert t m x y) (KL:KeyLaw P kt κ) (e:TypeId) (ht:P.underlying t=some (.map kt e))
  (hm:a.eval m=.map (some b)) (h:j5 κ w b l) (k:K) (v:Value) (hx:a.eval x=κ k) (hy:a.eval y=v)
  (hK:∀ w',j5 κ w' b (aput l k v)→w.grownBy w' (some b)→w'.heap.size=w.heap.size→wpList P ops Q rest (a.put o.dst undef) w'):wpList P ops Q (o::rest) a w:=by
 refine wpList_plain hgd fun K' hK'=>?_
 obtain ⟨w',hrun,h1,h2,h3⟩:=run_put KL h ht k v
 unfold Oper.wp
 simp [execOp,hop,hm,hx,hy,hrun,Result.andThen]
 exact hK' _ _ (hK w' h1 h2 h3)
theorem zeroFn (w:World):(zeroValue 95).run Tryz.prog w=.ok .nilFunc w:=by kernel_rfl
theorem callee_step {E:Env} {F:Fr} {vars:Vars} (hk:E.ok F) (x:Expr) (hr:∀ y∈y4 x,runE E.p F.i F.f y) (HA:∀ e∈x.args,ExAt E F vars e) (HBody:∀ (F':Fr),F'.i<F.i→E.ok F'→BodyAt E F' F'.f.body) (v:Value) (w:World) (st:St) (hB0:Below E.w0.heap.size E.w0 w) (hR:E.run st w) (hF:E.fr F vars w) (hx:zl E.w0 x v) (hlen:(E.ev F vars x st).2.opened.length≤1000000) :
  ∃ g,(aget ([(0,.func (.func 52) #[.pointer (some ⟨F.fb,0,none⟩)] #[]),(1,.func (.func 53) #[.pointer (some ⟨F.fb,0,none⟩)] #[]),(2,.func (.func 54) #[.pointer (some ⟨F.fb,0,none⟩)] #[]),(3,.func (.func 55) #[.pointer (some ⟨F.fb,0,none⟩)] #[]),(4,.func (.func 56) #[.pointer (some ⟨F.fb,0,none⟩)] #[]),(5,.func (.func 57) #[.pointer (some ⟨F.fb,0,none⟩)] #[]),(6,.func (.func 58) #[.pointer (some ⟨F.fb,0,none⟩)] #[])]:List (Int×Value)) x.kind).getD .nilFunc=.func (.func g) #[.pointer (some ⟨F.fb,0,none⟩)] #[]∧(∀ args w,(callFunc g args).run Tryz.prog w=.ok (.enter g args) w) ∧
   ∀ w1,Below w.heap.size w w1→Calls Tryz.prog g #[.pointer (some ⟨F.fb,0,none⟩),v] w1 (ExRet E w1 (E.ev F vars x st)):=by
 have hrx:=hr x (by rw [qq];simp)
 have hb1:∀ w1,Below w.heap.size w w1→Below E.w0.heap.size E.w0 w1∧E.run st w1∧E.fr F vars w1:=fun w1 hb=>⟨hB0.trans (hb.mono hB0.size),vh.next hR hb,Env.frame hF (j8 hb)⟩
 obtain ⟨k,n,s,xs⟩:=x
 obtain ⟨q0,q1,q2,q3,q4⟩:=hrx.1
 simp only at q0 q1 q2 q3 q4 HA
 have hk7:k=0∨k=1∨k=2∨k=3∨k=4∨k=5∨k=6:=by omega
 rcases hk7 with rfl|rfl|rfl|rfl|rfl|rfl|rfl
 ·refine ⟨52,rfl,fun _ _=>by kernel_rfl,fun w1 hb=>?_⟩
  obtain ⟨_,h1,_⟩:=hb1 w1 hb
  refine (num_fr ⟨0,n,s,xs⟩ v _ w1 hx).mono ?_
  rintro e w2 ⟨rfl,hb2⟩
  have hu:U64 n:=by obtain ⟨_,_,_,_,hu,_⟩:=hx;exact hu
  have he:E.ev F vars ⟨0,n,s,xs⟩ st=(n,st):=by unfold Env.ev;rw [evE,if_pos rfl]
  rw [he]
  exact ⟨rfl,j8 hb2,vh.next h1 hb2,hu⟩
 ·refine ⟨53,rfl,fun _ _=>by kernel_rfl,fun w1 hb=>?_⟩
  obtain ⟨_,h1,h2⟩:=hb1 w1 hb
  refine (variable_fr ⟨1,n,s,xs⟩ v w1 h2 hx).mono ?_
  rintro e w2 ⟨rfl,hb2⟩
  have he:E.ev F vars ⟨1,n,s,xs⟩ st=((aget vars s).getD 0,st):=by unfold Env.ev;rw [evE,if_neg (by decide),if_pos rfl]
  rw [he]
  refine ⟨rfl,j8 hb2,vh.next h1 hb2,?_⟩
  cases ha:aget vars s with
  | none=>show U64 0;exact ⟨by decide,by decide⟩
  | some u=>
   obtain ⟨t,ht⟩:=aget_mem ha
   exact hF.nums _ ht
 ·rw [show (jk 2).least=1 from rfl] at q2
  rw [show (jk 2).most=1 from rfl] at q3
  obtain ⟨e0,rfl⟩:=len1 (xs:=xs) (by omega)
  refine ⟨54,rfl,fun _ _=>by kernel_rfl,fun w1 hb=>?_⟩
  obtain ⟨h0,h1,h2⟩:=hb1 w1 hb
  exact get_fr hk n s (HA e0 (by simp)) (hrx.2.2 rfl) v w1 st h0 h1 h2 hx hlen
 ·rw [show (jk 3).least=2 from rfl] at q2
  rw [show (jk 3).most=2 from rfl] at q3
  obtain ⟨e0,e1,rfl⟩:=len2 (xs:=xs) (by omega)
  refine ⟨55,rfl,fun _ _=>by kernel_rfl,fun w1 hb=>?_⟩
  obtain ⟨h0,h1,h2⟩:=hb1 w1 hb
  exact op_fr hk n s (HA e0 (by simp)) (HA e1 (by simp)) (q4 rfl) v w1 st h0 h1 h2 hx hlen
 ·rw [show (jk 4).least=3 from rfl] at q2
  rw [show (jk 4).most=3 from rfl] at q3
  obtain ⟨e0,e1,e2,rfl⟩:∃ e0 e1 e2,xs=[e0,e1,e2]:=by
   match xs,(show xs.length=3 by omega) with
   | [a,b,c],_=>exact ⟨a,b,c,rfl⟩
  refine ⟨56,rfl,fun _ _=>by kernel_rfl,fun w1 hb=>?_⟩
  obtain ⟨h0,h1,h2⟩:=hb1 w1 hb
  exact sel_fr hk n s (HA e0 (by simp)) (HA e1 (by simp)) (HA e2 (by simp)) v w1 st h0 h1 h2 hx hlen
 ·refine ⟨57,rfl,fun _ _=>by kernel_rfl,fun w1 hb=>?_⟩
  obtain ⟨h0,h1,h2⟩:=hb1 w1 hb
  exact call_fr hk n s xs hrx HA HBody v w1 st h0 h1 h2 hx hlen
 ·rw [show (jk 6).least=1 from rfl] at q2
  rw [show (jk 6).most=1 from rfl] at q3
  obtain ⟨e0,rfl⟩:=len1 (xs:=xs) (by omega)
  refine ⟨58,rfl,fun _ _=>by kernel_rfl,fun w1 hb=>?_⟩
  obtain ⟨h0,h1,h2⟩:=hb1 w1 hb
  exact open_fr hk n s (HA e0 (by simp)) v w1 st h0 h1 h2 hx hlen
theorem expr_step {E:Env} {F:Fr} {vars:Vars} (hk:E.ok F) (x:Expr) (hr:∀ y∈y4 x,runE E.p F.i F.f y) (HA:∀ e∈x.args,ExAt E F vars e) (HBody:∀ (F':Fr),F'.i<F.i→E.ok F'→BodyAt E F' F'.f.body):ExAt E F vars x:=by
 intro v w st hB0 hR hF hx hlen
 obtain ⟨g,hg,eg,hc⟩:=callee_step hk x hr HA HBody v w st hB0 hR hF hx hlen
 obtain ⟨a,c,rfl,-⟩:=qu hx
 have hBl:=(wu w.heap.size w).alloc (wo _) (.cells #[.int .i64 x.kind,.int .u64 x.num,.string x.name,.slice a x.args.length c] 53)
 have hmk:∀ (t:TypeId) (w:World),(Instr.makeMap t none).run Tryz.prog w=.ok (.map (some w.heap.size)) (w.alloc (.map #[] 0)):=fun t w=>rfl
 have HB0:=k8 (hBl.alloc (by simp) (.map #[] 0))
 have HM0:Hid (j5 (Value.int .i64) ((w.alloc (.cells #[.int .i64 x.kind,.int .u64 x.num,.string x.name,.slice a x.args.length c] 53)).alloc (.map #[] 0)) (w.heap.size+1) []):=by
  have:=(MapKept.heap_alloc (w.alloc (.cells #[.int .i64 x.kind,.int .u64 x.num,.string x.name,.slice a x.args.length c] 53)) (.map #[] 0)).1
  exact ⟨_,_,by simpa using this,rfl⟩
 have hbx0:((w.alloc (.cells #[.int .i64 x.kind,.int .u64 x.num,.string x.name,.slice a x.args.length c] 53)).alloc (.map #[] 0)).heap[w.heap.size]?=some (.cells #[.int .i64 x.kind,.int .u64 x.num,.string x.name,.slice a x.args.length c] 53):=by
  rw [Go.heap_alloc_old _ _ (by simp)]
  exact Go.heap_alloc_new w _
 have HG:=k8 hg
 have HC:=k8 hc
 generalize E.ev F vars x st=R at *
 have Hbx0:=k8 hbx0
 clear hr HA HBody hg hc hBl hR hF hB0 hx hlen hk hbx0
 go_enter Tryz.func34,Tryz.ntmps34
 go_wp2_with (refine wpList_ins rfl _ _ _ _ rfl keyI 95 Tryz.underlying112 rfl HM0.out 0 _ rfl rfl ?_)
 intro u1 hm hg hz
 have HM1:=k8 (show j5 (Value.int .i64) u1 (w.heap.size+1) [(0,.func (.func 52) #[.pointer (some ⟨F.fb,0,none⟩)] #[])] from hm)
 have HB1:=k8 (HB0.out.grown hg HB0.out.size (fun b hb=>by simp only [Option.some.injEq] at hb;omega))
 have hbx1:=hg.block w.heap.size (by simp;omega) (by simp)
 clear hm hg hz
 go_wp2_with (refine wpList_ins rfl _ _ _ _ rfl keyI 95 Tryz.underlying112 rfl HM1.out 1 _ rfl rfl ?_)
 intro u2 hm hg hz
 have HM2:=k8 (show j5 (Value.int .i64) u2 (w.heap.size+1) [(0,.func (.func 52) #[.pointer (some ⟨F.fb,0,none⟩)] #[]),(1,.func (.func 53) #[.pointer (some ⟨F.fb,0,none⟩)] #[])] from hm)
 have HB2:=k8 (HB1.out.grown hg HB1.out.size (fun b hb=>by simp only [Option.some.injEq] at hb;omega))
 have hbx2:=hg.block w.heap.size (by exact Nat.lt_of_succ_lt (HM1.out.lt)) (by simp)
 clear hm hg hz
 go_wp2_with (refine wpList_ins rfl _ _ _ _ rfl keyI 95 Tryz.underlying112 rfl HM2.out 2 _ rfl rfl ?_)
 intro u3 hm hg hz
 have HM3:=k8 (show j5 (Value.int .i64) u3 (w.heap.size+1) [(0,.func (.func 52) #[.pointer (some ⟨F.fb,0,none⟩)] #[]),(1,.func (.func 53) #[.pointer (some ⟨F.fb,0,none⟩)] #[]),(2,.func (.func 54) #[.pointer (some ⟨F.fb,0,none⟩)] #[])] from hm)
 have HB3:=k8 (HB2.out.grown hg HB2.out.size (fun b hb=>by simp only [Option.some.injEq] at hb;omega))
 have hbx3:=hg.block w.heap.size (by exact Nat.lt_of_succ_lt (HM2.out.lt)) (by simp)
 clear hm hg hz
 go_wp2_with (refine wpList_ins rfl _ _ _ _ rfl keyI 95 Tryz.underlying112 rfl HM3.out 3 _ rfl rfl ?_)
 intro u4 hm hg hz
 have HM4:=k8 (show j5 (Value.int .i64) u4 (w.heap.size+1) [(0,.func (.func 52) #[.pointer (some ⟨F.fb,0,none⟩)] #[]),(1,.func (.func 53) #[.pointer (some ⟨F.fb,0,none⟩)] #[]),(2,.func (.func 54) #[.pointer (some ⟨F.fb,0,none⟩)] #[]),(3,.func (.func 55) #[.pointer (some ⟨F.fb,0,none⟩)] #[])] from hm)
 have HB4:=k8 (HB3.out.grown hg HB3.out.size (fun b hb=>by simp only [Option.some.injEq] at hb;omega))
 have hbx4:=hg.block w.heap.size (by exact Nat.lt_of_succ_lt (HM3.out.lt)) (by simp)
 clear hm hg hz
 go_wp2_with (refine wpList_ins rfl _ _ _ _ rfl keyI 95 Tryz.underlying112 rfl HM4.out 4 _ rfl rfl ?_)
 intro u5 hm hg hz
 have HM5:=k8 (show j5 (Value.int .i64) u5 (w.heap.size+1) [(0,.func (.func 52) #[.pointer (some ⟨F.fb,0,none⟩)] #[]),(1,.func (.func 53) #[.pointer (some ⟨F.fb,0,none⟩)] #[]),(2,.func (.func 54) #[.pointer (some ⟨F.fb,0,none⟩)] #[]),(3,.func (.func 55) #[.pointer (some ⟨F.fb,0,none⟩)] #[]),(4,.func (.func 56) #[.pointer (some ⟨F.fb,0,none⟩)] #[])] from hm)
 have HB5:=k8 (HB4.out.grown hg HB4.out.size (fun b hb=>by simp only [Option.some.injEq] at hb;omega))
 have hbx5:=hg.block w.heap.size (by exact Nat.lt_of_succ_lt (HM4.out.lt)) (by simp)
 clear hm hg hz
 go_wp2_with (refine wpList_ins rfl _ _ _ _ rfl keyI 95 Tryz.underlying112 rfl HM5.out 5 _ rfl rfl ?_)
 intro u6 hm hg hz
 have HM6:=k8 (show j5 (Value.int .i64) u6 (w.heap.size+1) [(0,.func (.func 52) #[.pointer (some ⟨F.fb,0,none⟩)] #[]),(1,.func (.func 53) #[.pointer (some ⟨F.fb,0,none⟩)] #[]),(2,.func (.func 54) #[.pointer (some ⟨F.fb,0,none⟩)] #[]),(3,.func (.func 55) #[.pointer (some ⟨F.fb,0,none⟩)] #[]),(4,.func (.func 56) #[.pointer (some ⟨F.fb,0,none⟩)] #[]),(5,.func (.func 57) #[.pointer (some ⟨F.fb,0,none⟩)] #[])] from hm)
 have HB6:=k8 (HB5.out.grown hg HB5.out.size (fun b hb=>by simp only [Option.some.injEq] at hb;omega))
 have hbx6:=hg.block w.heap.size (by exact Nat.lt_of_succ_lt (HM5.out.lt)) (by simp)
 clear hm hg hz
 go_wp2_with (refine wpList_ins rfl _ _ _ _ rfl keyI 95 Tryz.underlying112 rfl HM6.out 6 _ rfl rfl ?_)
 intro u7 hm hg hz
 have HM7:=k8 (show j5 (Value.int .i64) u7 (w.heap.size+1) [(0,.func (.func 52) #[.pointer (some ⟨F.fb,0,none⟩)] #[]),(1,.func (.func 53) #[.pointer (some ⟨F.fb,0,none⟩)] #[]),(2,.func (.func 54) #[.pointer (some ⟨F.fb,0,none⟩)] #[]),(3,.func (.func 55) #[.pointer (some ⟨F.fb,0,none⟩)] #[]),(4,.func (.func 56) #[.pointer (some ⟨F.fb,0,none⟩)] #[]),(5,.func (.func 57) #[.pointer (some ⟨F.fb,0,none⟩)] #[]),(6,.func (.func 58) #[.pointer (some ⟨F.fb,0,none⟩)] #[])] from hm)
 have HB7:=k8 (HB6.out.grown hg HB6.out.size (fun b hb=>by simp only [Option.some.injEq] at hb;omega))
 have hbx7:=hg.block w.heap.size (by exact Nat.lt_of_succ_lt (HM6.out.lt)) (by simp)
 clear hm hg hz
 have hbx:=((((((hbx7.trans hbx6).trans hbx5).trans hbx4).trans hbx3).trans hbx2).trans hbx1).trans Hbx0.out
 have x0:u7.cell? ⟨w.heap.size,0,none⟩=some (.int .i64 x.kind):=by unfold World.cell?;simp only;rw [hbx];rfl
 have x1:u7.cell? ⟨w.heap.size,1,none⟩=some (.int .u64 x.num):=by unfold World.cell?;simp only;rw [hbx];rfl
 have x2:u7.cell? ⟨w.heap.size,2,none⟩=some (.string x.name):=by unfold World.cell?;simp only;rw [hbx];rfl
 have x3:u7.cell? ⟨w.heap.size,3,none⟩=some (.slice a x.args.length c):=by unfold World.cell?;simp only;rw [hbx];rfl
 have hget:=HG.out
 have HC7:=k8 (HC.out u7 HB7.out)
 clear hbx hbx1 hbx2 hbx3 hbx4 hbx5 hbx6 hbx7
 go_wp2_with (at_lookup;go_loud (refine yp rfl _ _ _ _ rfl keyI 95 Tryz.underlying112 _ (zeroFn _) rfl HM7.out _ rfl ?_))
 refine HC7.out.mono ?_
 rintro e w2 ⟨rfl,hk2,hr2,hu2⟩
 have HK2:=k8 ((j8 (bk:=E.bk) (wb:=E.wb) (ob:=E.ob) (M:=[]) HB7.out).trans hk2)
 have HR2:=k8 hr2
 have HU2:=k8 hu2
 clear hk2 hr2 hu2 HC7 x0 x1 x2 x3
 go_wp2
 go_ret
 exact ⟨rfl,HK2.out,HR2.out,HU2.out⟩
theorem expr_all {E:Env} {F:Fr} {vars:Vars} (hk:E.ok F) (HBody:∀ (F':Fr),F'.i<F.i→E.ok F'→BodyAt E F' F'.f.body):∀ (N:Nat) (x:Expr),x.wt≤N→(∀ y∈y4 x,runE E.p F.i F.f y)→ExAt E F vars x:=by
 intro N
 induction N with
 | zero=>intro x h;obtain ⟨k,n,s,xs⟩:=x;rw [Expr.wt] at h;omega
 | succ N ih=>
  intro x h hr
  refine expr_step hk x hr (fun e he=>ih e ?_ (fun y hy=>hr y ?_)) HBody
  ·have:=mem_wt he
   obtain ⟨k,n,s,xs⟩:=x
   rw [Expr.wt] at h
   simp only at this
   omega
  ·rw [qq]
   exact List.mem_cons_of_mem _ (jq.2 ⟨e,he,hy⟩)
end
section
open Go.RowKit
def Env.es (E:Env) (F:Fr) (x:Stmt) (y:Vars×Int×St):Vars×Int×St:=exS aluF (callT aluF E.p E.secs F.i) E.p F.i E.secs F.ptrs x y
theorem ex_nil (E:Env) (F:Fr) (y:Vars×Int×St):E.ex F [] y=y:=by unfold Env.ex;rw [exSs]
theorem ex_snoc (E:Env) (F:Fr):∀ (l:List Stmt) (y:Vars×Int×St) (k:Nat) (h:k<l.length),E.ex F (l.take (k+1)) y=E.es F l[k] (E.ex F (l.take k) y)
 | [],_,_,h=>by simp at h
 | x::l,y,0,_=>by simp only [List.take_succ_cons,List.take_zero,Env.ex,exSs,Env.es,List.getElem_cons_zero]
 | x::l,y,k+1,h=>by
  have ih:=fun y=>ex_snoc E F l y k (by simpa using h)
  simp only [List.take_succ_cons,List.getElem_cons_succ]
  unfold Env.ex at *
  rw [exSs]
  conv=>rhs;rw [exSs]
  exact ih _
theorem ex_mono (E:Env) (F:Fr) (l:List Stmt) (y:Vars×Int×St):y.2.2.opened.length≤(E.ex F l y).2.2.opened.length:=exSs_mono (callT_mono aluF E.p E.secs F.i) (wtSs l) F.ptrs l y (wo _)
theorem es_ex (E:Env) (F:Fr) (x:Stmt) (y:Vars×Int×St):E.es F x y=E.ex F [x] y:=by unfold Env.ex Env.es;rw [exSs,exSs]
theorem ex_upto (E:Env) (F:Fr) (l:List Stmt) (y:Vars×Int×St):∀ (d k:Nat),k+d=l.length→(E.ex F (l.take k) y).2.2.opened.length≤(E.ex F l y).2.2.opened.length
 | 0,k,h=>by rw [ww (by omega)];exact wo _
 | d+1,k,h=>by
  refine wx ?_ (ex_upto E F l y d (k+1) (by omega))
  rw [ex_snoc E F l y k (by omega),es_ex]
  exact ex_mono E F _ _
theorem es_set (E:Env) (F:Fr) (s:ByteArray) (n:Int) (e0:Expr) (t e:List Stmt) (yv:Vars) (yo:Int) (ys:St):E.es F ⟨0,s,n,[e0],t,e⟩ (yv,yo,ys)=(aput yv s (E.ev F yv e0 ys).1,yo,(E.ev F yv e0 ys).2):=by unfold Env.es;rw [exS,if_pos rfl];rfl
theorem es_put (E:Env) (F:Fr) (s:ByteArray) (n:Int) (e0 e1:Expr) (t e:List Stmt) (yv:Vars) (yo:Int) (ys:St):E.es F ⟨1,s,n,[e0,e1],t,e⟩ (yv,yo,ys)=(yv,yo,(E.ev F yv e1 (E.ev F yv e0 ys).2).2.put (km E.secs F.ptrs s) (E.ev F yv e0 ys).1 (E.ev F yv e1 (E.ev F yv e0 ys).2).1):=by unfold Env.es;rw [exS,if_neg (by decide),if_pos rfl];rfl
theorem es_if (E:Env) (F:Fr) (s:ByteArray) (n:Int) (e0:Expr) (t e:List Stmt) (yv:Vars) (yo:Int) (ys:St):E.es F ⟨2,s,n,[e0],t,e⟩ (yv,yo,ys)=(let r:=if (E.ev F yv e0 ys).1≠0 then E.ex F t (yv,0,(E.ev F yv e0 ys).2) else E.ex F e (yv,0,(E.ev F yv e0 ys).2);(r.1,yo,r.2.2)):=by unfold Env.es;rw [exS,if_neg (by decide),if_neg (by decide),if_pos rfl];rfl
def forStep (E:Env) (F:Fr) (s:ByteArray) (t:List Stmt) (m:Nat) (z:Vars×St):Vars×St:=((E.ex F t (aput z.1 s (m:Int),0,z.2)).1,(E.ex F t (aput z.1 s (m:Int),0,z.2)).2.2)
theorem es_for (E:Env) (F:Fr) (s:ByteArray) (n:Int) (xs:List Expr) (t e:List Stmt) (yv:Vars) (yo:Int) (ys:St):E.es F ⟨3,s,n,xs,t,e⟩ (yv,yo,ys)=((forN (forStep E F s t) n.toNat (yv,ys)).1,yo,(forN (forStep E F s t) n.toNat (yv,ys)).2):=by unfold Env.es;rw [exS,if_neg (by decide),if_neg (by decide),if_neg (by decide),if_pos rfl];rfl
theorem es_ret (E:Env) (F:Fr) (s:ByteArray) (n:Int) (e0:Expr) (t e:List Stmt) (yv:Vars) (yo:Int) (ys:St):E.es F ⟨4,s,n,[e0],t,e⟩ (yv,yo,ys)=(yv,(E.ev F yv e0 ys).1,(E.ev F yv e0 ys).2):=by unfold Env.es;rw [exS,if_neg (by decide),if_neg (by decide),if_neg (by decide),if_neg (by decide),if_pos rfl];rfl
theorem forN_mono (E:Env) (F:Fr) (s:ByteArray) (t:List Stmt) (z:Vars×St):∀ (d m:Nat),(forN (forStep E F s t) m z).2.opened.length≤(forN (forStep E F s t) (m+d) z).2.opened.length
 | 0,m=>wo _
 | d+1,m=>by
  refine wx (forN_mono E F s t z d m) ?_
  rw [show m+(d+1)=(m+d)+1 by omega,forN]
  exact ex_mono E F t (_,0,_)
theorem vh.putW {w0:World} {p:Src} {bk:List Nat} {wb ob sb:Nat} {sv:Value} {secs:Refs} {shp:List Nat} {st:St} {w:World} (hf:RunFix w0 p bk wb ob sb secs shp) (h:vh w0 p bk wb ob sb sv secs shp st w) {r:Ref} {x v:Int} {b:Nat} (hb:bk[r.row]?=some b) {u:Int} (hc:w.cell? ⟨b,r.at x,none⟩=some (.int .u64 u)) (hv:U64 v) :
  vh w0 p bk wb ob sb sv secs shp (st.put r x v) (w.setCell ⟨b,r.at x,none⟩ (.int .u64 v)):=by
 obtain ⟨a0,c0,a1,c1,k0,k1,k2⟩:=h.cells
 obtain ⟨ov,k3,k4,k5⟩:=h.opened
 obtain ⟨lv,hl,he⟩:=h.secs
 have hbm:=gg hb
 have hbo:=(hf.lo b hbm).2
 have hbw:wb≠b:=fun e=>hf.wlo.2.2 (e ▸ hbm)
 have oth:∀ (b' o:Nat) (u:Value),b'≠b→w.cell? ⟨b',o,none⟩=some u→(w.setCell ⟨b,r.at x,none⟩ (.int .u64 v)).cell? ⟨b',o,none⟩=some u:=fun b' o u hne hc=>by
  rw [World.cell?_setCell_other (h:=fun e=>hne (congrArg Addr.block e).symm)];exact hc
 have hk:Kept [b] w (w.setCell ⟨b,r.at x,none⟩ (.int .u64 v)):=(Kept.refl [b] w).setCell (.inl (by simp)) _
 refine ⟨⟨a0,c0,a1,c1,oth _ _ _ hbw k0,oth _ _ _ hbw k1,k2⟩,oth _ _ _ hbw h.sec,oth _ _ _ hbw h.shared,⟨ov,oth _ _ _ hbw k3,by rw [World.frozen?_setCell];exact k4,?_⟩,⟨lv,hl.block (hk.block sb hl.lt (by simp only [wy];intro e;exact hf.slo.1 (by rw [e];exact hbm))),he⟩,?_,?_,?_,by simpa [World.setCell] using h.big⟩
 ·refine World.ownsRow.kept k5 (w':=w.setCell ⟨b,r.at x,none⟩ (.int .u64 v)) (row:=some b) ⟨rfl,rfl,rfl,by simp [World.setCell],fun i _ hi=>Below.heap_setCell _ _ _ _ (fun e=>hi (by rw [e]))⟩ ?_
  cases hv1:ov.ownBlock with
  | none=>exact .inl rfl
  | some kk=>exact .inr (by have:=ks k5 kk hv1;simp;omega)
 ·intro r' l b' hr' hb' j y hj
  unfold St.put at hr'
  simp only [List.getElem?_modify] at hr'
  by_cases hrr:r.row=r'
  ·subst hrr
   rw [hb] at hb'
   cases hb'
   cases hm:st.mem[r.row]? with
   | none=>rw [hm] at hr';simp at hr'
   | some l0=>
    rw [hm] at hr'
    simp at hr'
    subst hr'
    rw [List.getElem?_set] at hj
    by_cases hat:r.at x=j
    ·subst hat
     split at hj
     ·split at hj
      ·cases hj
       have hlt:r.at x<l0.length:=by assumption
       exact ⟨World.cell?_setCell_same _ _ _ hc,by rw [World.frozen?_setCell];exact (h.rows _ l0 b hm hb (r.at x) (l0[r.at x]'hlt) (List.getElem?_eq_getElem hlt)).2⟩
      ·cases hj
     ·rename_i hn;exact absurd rfl hn
    ·rw [if_neg hat] at hj
     obtain ⟨q1,q2⟩:=h.rows _ l0 b hm hb j y hj
     refine ⟨?_,by rw [World.frozen?_setCell];exact q2⟩
     rw [World.cell?_setCell_other (h:=fun e=>hat (congrArg Addr.off e))]
     exact q1
  ·have hr2:st.mem[r']?=some l:=by simpa [hrr] using hr'
   obtain ⟨q1,q2⟩:=h.rows _ l b' hr2 hb' j y hj
   have hbb:b'≠b:=fun e=>by
    subst e
    obtain ⟨h1,e1⟩:=List.getElem?_eq_some_iff.1 hb
    obtain ⟨h2,e2⟩:=List.getElem?_eq_some_iff.1 hb'
    exact hrr ((List.getElem_inj hf.nd).1 (e1.trans e2.symm))
   exact ⟨oth _ _ _ hbb q1,by rw [World.frozen?_setCell];exact q2⟩
 ·intro l hl y hy
  unfold St.put at hl
  simp only at hl
  obtain ⟨k,hk,e⟩:=List.getElem_of_mem hl
  rw [List.getElem_modify] at e
  have hk':k<st.mem.length:=by simpa using hk
  split at e
  ·subst e
   rcases List.mem_or_eq_of_mem_set hy with h1|h1
   ·exact h.nums _ (List.getElem_mem hk') _ h1
   ·subst h1;exact hv
  ·subst e
   exact h.nums _ (List.getElem_mem hk') _ hy
 ·rw [← h.shape]
  unfold St.put
  simp only
  apply List.ext_getElem
  ·simp
  ·intro k h1 h2
   rw [List.getElem_map,List.getElem_map,List.getElem_modify]
   split
   ·simp
   ·rfl
theorem body_all {E:Env} {F:Fr} (hk:E.ok F) (HBody:∀ (F':Fr),F'.i<F.i→E.ok F'→BodyAt E F' F'.f.body):∀ (N:Nat) (l:List Stmt),wtSs l≤N→(∀ ev∈evSs l,runEv E.p F.i F.f ev)→BodyAt E F l:=by
 intro N
 induction N with
 | zero=>
  intro l h _ vars v w st hB0 hR hF hsl hlen
  cases l with
  | cons x l=>obtain ⟨k,s,n,xs,t,e⟩:=x;simp only [wtSs,Stmt.wt] at h;omega
  | nil=>
   obtain ⟨a,c,rfl,hc,hl,-⟩:=hsl
   rw [ex_nil] at hlen ⊢
   simp only [List.length_nil]
   have HR:=k8 hR
   have HF:=k8 hF
   clear hR hF hB0 hk HBody
   go_enter Tryz.func26,Tryz.ntmps26
   go_wp2_with fail
   go_loopw [5,13] (fun nv iv wr=>iv=.int .i64 0∧nv=.int .u64 0∧wr=w) (fun _ iv _=>0)
   case atStart=>exact ⟨rfl,rfl,rfl⟩
   case round=>
    obtain ⟨rfl,rfl,rfl⟩:=hrel
    go_wp2
    go_ret
    exact ⟨rfl,RK.refl _ _ _ _ _,HR.out,HF.out,(show U64 0 from ⟨by decide,by decide⟩)⟩
 | succ N ih=>
 intro l hN hrun vars v w st hB0 hR hF hsl hlen
 obtain ⟨la,lc,rfl,hcap,hll,hr⟩:=hsl
 have HR:=k8 hR
 have HF:=k8 hF
 have HB0:=k8 hB0
 have HRow:=k8 hr
 have HOk:=k8 hk
 have HRun:=k8 hrun
 have HLen:=k8 hlen
 have HBd:=k8 HBody
 clear hR hF hB0 hr hk hrun hlen HBody
 go_enter Tryz.func26,Tryz.ntmps26
 go_wp2_with fail
 go_loopw [5,13] (fun nv iv wr=>∃ k:Nat,k≤l.length∧iv=.int .i64 k∧nv=.int .u64 (E.ex F (l.take k) (vars,0,st)).2.1∧E.rk [F.vm] w wr∧E.run (E.ex F (l.take k) (vars,0,st)).2.2 wr∧E.fr F (E.ex F (l.take k) (vars,0,st)).1 wr∧U64 (E.ex F (l.take k) (vars,0,st)).2.1) (fun _ iv _=>l.length - (intOf iv).toNat)
 case atStart=>exact ⟨0,gj _,rfl,by rw [List.take_zero,ex_nil],RK.refl _ _ _ _ _,by rw [List.take_zero,ex_nil];exact HR.out,by rw [List.take_zero,ex_nil];exact HF.out,by rw [List.take_zero,ex_nil];exact (show U64 0 from ⟨by decide,by decide⟩)⟩
 case round=>
  obtain ⟨k,hk,rfl,rfl,hKr,hRr,hFr,hUr⟩:=hrel
  by_cases hlt:k<l.length
  ·obtain ⟨b,o,rfl,hro⟩:=HRow.out (by intro h;rw [h] at hlt;simp at hlt)
   have hBr:Below E.w0.heap.size E.w0 wr:=HB0.out.trans (hKr.below (B:=E.w0.heap.size) HB0.out.size (fun b hb=>(HOk.out.fix.lo b hb).1) HOk.out.fix.wlo.1 (wx HOk.out.fix.wlo.1 (Nat.le_of_lt HOk.out.fix.wlo.2.1)) (fun b hb=>by
    simp only [wy] at hb
    subst hb
    have:=HF.out.lo.2.1
    have:=HOk.out.fix.wlo
    omega))
   obtain ⟨x0,z0,x1,z1,x2,z2,h0,h1,h2,h3,h4,h5,hSI,hXs,hXt,hXe⟩:=stmtIs_at (hro k l[k] (by simp [hlt]))
   have h0':=jb hBr h0
   have h1':=jb hBr h1
   have h2':=jb hBr h2
   have h3':=jb hBr h3
   have h4':=jb hBr h4
   have h5':=jb hBr h5
   have hbl:=k9 wr _ h0'
   have hTk:=ex_snoc E F l (vars,0,st) k hlt
   have hup:=ex_upto E F l (vars,0,st) (l.length - (k+1)) (k+1) (by omega)
   have hlk:(E.ex F (l.take (k+1)) (vars,0,st)).2.2.opened.length≤1000000:=wx hup HLen.out
   rw [hTk] at hlk
   have hw:=mem_wtS (List.getElem_mem hlt)
   have hevx:∀ ev∈evS l[k],runEv E.p F.i F.f ev:=fun ev he=>HRun.out ev (yx.2 ⟨l[k],List.getElem_mem _,he⟩)
   have HTk:=k8 hTk
   clear hTk hro h0 h1 h2 h3 h4 h5 hSI hup
   generalize l[k]=x at *
   generalize E.ex F (l.take k) (vars,0,st)=y at *
   obtain ⟨yv,yo,ys⟩:=y
   obtain ⟨xk,s,num,xs,xt,xe⟩:=x
   rw [Stmt.wt] at hw
   simp only at h0' h1' h2' h3' h4' h5' hXs hXt hXe hRr hFr hUr
   have har:=(hevx (.inl ⟨xk,s,num,xs,xt,xe⟩) (by rw [yz];simp)).1
   have hnm:=(hevx (.inl ⟨xk,s,num,xs,xt,xe⟩) (by rw [yz];simp)).2.1
   have hdex:=(hevx (.inl ⟨xk,s,num,xs,xt,xe⟩) (by rw [yz];simp)).2.2
   simp only at hdex hnm
   rw [yz] at hevx
   simp only [gh,gi,List.mem_map] at hevx
   have HIt:=k8 (ih xt (by omega) (fun ev he=>hevx ev (.inr (.inl (.inr he)))))
   have HIe:=k8 (ih xe (by omega) (fun ev he=>hevx ev (.inr (.inr he))))
   have HAll:=k8 (fun (e:Expr) (he:e∈xs)=>expr_all (vars:=yv) HOk.out HBd.out e.wt e (wo _) (fun y hy=>hdex y (jq.2 ⟨e,he,hy⟩)))
   have HXs:=k8 hXs
   have HXt:=k8 hXt
   have HXe:=k8 hXe
   have HUr:=k8 hUr
   have hBx:=(wu wr.heap.size wr).alloc (wo _) (.cells #[.int .i64 xk,.string s,.int .i64 num,.slice x0 xs.length z0,.slice x1 xt.length z1,.slice x2 xe.length z2] 58)
   have HXc:=k8 (Env.box HOk.out hRr (cs:=#[.int .i64 xk,.string s,.int .i64 num,.slice x0 xs.length z0,.slice x1 xt.length z1,.slice x2 xe.length z2]) (t:=58) (by decide))
   have HX0:=k8 (show (wr.alloc (.cells #[.int .i64 xk,.string s,.int .i64 num,.slice x0 xs.length z0,.slice x1 xt.length z1,.slice x2 xe.length z2] 58)).cell? ⟨wr.heap.size,0,none⟩=some (.int .i64 xk) by simp)
   have HX1:=k8 (show (wr.alloc (.cells #[.int .i64 xk,.string s,.int .i64 num,.slice x0 xs.length z0,.slice x1 xt.length z1,.slice x2 xe.length z2] 58)).cell? ⟨wr.heap.size,1,none⟩=some (.string s) by simp)
   have HX2:=k8 (show (wr.alloc (.cells #[.int .i64 xk,.string s,.int .i64 num,.slice x0 xs.length z0,.slice x1 xt.length z1,.slice x2 xe.length z2] 58)).cell? ⟨wr.heap.size,2,none⟩=some (.int .i64 num) by simp)
   have HX3:=k8 (show (wr.alloc (.cells #[.int .i64 xk,.string s,.int .i64 num,.slice x0 xs.length z0,.slice x1 xt.length z1,.slice x2 xe.length z2] 58)).cell? ⟨wr.heap.size,3,none⟩=some (.slice x0 xs.length z0) by simp)
   have HX4:=k8 (show (wr.alloc (.cells #[.int .i64 xk,.string s,.int .i64 num,.slice x0 xs.length z0,.slice x1 xt.length z1,.slice x2 xe.length z2] 58)).cell? ⟨wr.heap.size,4,none⟩=some (.slice x1 xt.length z1) by simp)
   have HX5:=k8 (show (wr.alloc (.cells #[.int .i64 xk,.string s,.int .i64 num,.slice x0 xs.length z0,.slice x1 xt.length z1,.slice x2 xe.length z2] 58)).cell? ⟨wr.heap.size,5,none⟩=some (.slice x2 xe.length z2) by simp)
   have HKW:=k8 (hKr.trans (j8 (bk:=E.bk) (wb:=E.wb) (ob:=E.ob) (M:=[F.vm]) hBx))
   have hRW:E.run ys (wr.alloc (.cells #[.int .i64 xk,.string s,.int .i64 num,.slice x0 xs.length z0,.slice x1 xt.length z1,.slice x2 xe.length z2] 58)):=vh.next hRr hBx
   have HRW:=k8 hRW
   have HFW:=k8 (Env.frame hFr (j8 (bk:=E.bk) (wb:=E.wb) (ob:=E.ob) hBx))
   have HBelW:=k8 (hBr.trans (hBx.mono hBr.size))
   have HBr:=k8 hBr
   have HVX:Hid (wr.heap.size≠F.vm):=fun e=>by have:=hFr.vcalm.lt;omega
   clear hevx hdex hXs hXt hXe hKr hRr hFr hUr hBx hBr hRW hw
   have hk5:xk=0∨xk=1∨xk=2∨xk=3∨xk=4:=by have:=har.1;have:=har.2.1;simp only at *;omega
   have hfor:=har.2.2.2.2.1
   simp only at hfor
   rcases hk5 with rfl|rfl|rfl|rfl|rfl
   ·
    obtain ⟨e0,rfl⟩:=len1 (xs:=xs) (by
     have h1:=har.2.2.1;have h2:=har.2.2.2.1
     simp only at h1 h2
     rw [show (js 0).least=1 from rfl] at h1;rw [show (js 0).most=1 from rfl] at h2;omega)
    obtain ⟨_,_,he,_,_,hra⟩:=HXs.out
    simp only [Value.slice.injEq] at he
    obtain ⟨rfl,-,rfl⟩:=he
    obtain ⟨xb,xo,rfl,hroa⟩:=hra (by simp)
    obtain ⟨e0a,e0c,hc0,hXI0⟩:=vg (hroa 0 e0 rfl)
    rw [Nat.zero_mul,Nat.add_zero] at hc0
    have He0:=k8 hc0
    have HXI0:=k8 hXI0
    have HEX0:=k8 (HAll.out e0 (by simp))
    clear hc0 hXI0 hra hroa
    simp only [List.length_cons,List.length_nil,Nat.zero_add] at *
    obtain ⟨⟨V0,S0⟩,hVS⟩:∃ r,E.ev F yv e0 ys=r:=⟨_,rfl⟩
    rw [es_set,hVS] at HTk hlk
    have HL0:Hid ((E.ev F yv e0 ys).2.opened.length≤1000000):=by show _≤_;rw [hVS];exact hlk
    have HVS:=k8 hVS
    have HBel:=k8 (fun (y:World) (k:E.rk [] (wr.alloc (.cells #[.int .i64 0,.string s,.int .i64 num,.slice (some ⟨xb,xo,none⟩) 1 z0,.slice x1 xt.length z1,.slice x2 xe.length z2] 58)) y)=>Env.below HOk.out HBelW.out k)
    have HFr:=k8 (fun (y:World) (k:E.rk [] (wr.alloc (.cells #[.int .i64 0,.string s,.int .i64 num,.slice (some ⟨xb,xo,none⟩) 1 z0,.slice x1 xt.length z1,.slice x2 xe.length z2] 58)) y)=>Env.frame HFW.out k)
    clear hVS hlk har hnm hfor HAll
    go_wp2_with fail
    clear h0' h1' h2' h3' h4' h5' hbl HBr
    generalize hX:wr.heap.size=X at *
    refine yg zi (rkR E.bk E.wb E.ob []) [.is (.pointer (some ⟨F.fb,0,none⟩)),.is (.pointer (some ⟨F.fb,0,none⟩)),.is (.pointer (some ⟨F.fb,2,none⟩)),.is (.map (some F.vm)),.is (.pointer (some ⟨X,1,none⟩)),.is (.string s),.is (.pointer (some ⟨F.fb,0,none⟩)),.is (.pointer (some ⟨X,3,none⟩)),.is (.slice (some ⟨xb,xo,none⟩) 1 z0),.is (.pointer (some ⟨xb,xo,none⟩)),.is (.agg #[.int .i64 e0.kind,.int .u64 e0.num,.string e0.name,.slice e0a e0.args.length e0c]),.is (.int .u64 V0)] (fun b y=>match b with|true=>E.run S0 y∧U64 V0|false=>E.run ys y) 11 (vh.next HRW.out ((wu _ _).drew)) (by kernel_rfl) 12 (by decide) (by decide) (by kernel_rfl) _ rfl ?_ ?_
    ·refine ⟨?_,?_,?_,?_,?_,?_,?_,?_,?_,?_,?_,?_,trivial⟩
     ·refine jz rfl rfl rfl rfl fun x1 y hB hF hD=>?_
      have e0:slot x1 0=.pointer (some ⟨F.fb,0,none⟩):=hF.at 0 rfl
      clear hB hF
      simp only [execOp,ja,e0]
      first|rfl|(go_simp;try rfl)
     ·refine jz rfl rfl rfl rfl fun x1 y hB hF hD=>?_
      obtain ⟨d0,-⟩:=hD
      have e21:slot x1 21=.pointer (some ⟨F.fb,0,none⟩):=d0 rfl
      clear hB hF
      simp only [execOp,ja,e21]
      first|rfl|(go_simp;try rfl)
     ·refine jz rfl rfl rfl rfl fun x1 y hB hF hD=>?_
      obtain ⟨d0,-⟩:=hD
      have e22:slot x1 22=.pointer (some ⟨F.fb,0,none⟩):=d0 rfl
      clear hB hF
      simp only [execOp,ja,e22]
      first|rfl|(go_simp;try rfl)
     ·refine jz rfl rfl rfl rfl fun x1 y hB hF hD=>?_
      obtain ⟨d0,-⟩:=hD
      have e23:slot x1 23=.pointer (some ⟨F.fb,2,none⟩):=d0 rfl
      have hc:y.cell? ⟨F.fb,2,none⟩=some (.map (some F.vm)):=(HFr.out y hB).cells.2.2.1
      clear hB hF
      simp only [execOp,ja,e23]
      first|rfl|(go_simp;try rfl)
     ·refine jz rfl rfl rfl rfl fun x1 y hB hF hD=>?_
      have e7:slot x1 7=.pointer (some ⟨X,0,none⟩):=hF.at 7 rfl
      clear hB hF
      simp only [execOp,ja,e7]
      first|rfl|(go_simp;try rfl)
     ·refine jz rfl rfl rfl rfl fun x1 y hB hF hD=>?_
      obtain ⟨d0,-⟩:=hD
      have e25:slot x1 25=.pointer (some ⟨X,1,none⟩):=d0 rfl
      have hc:y.cell? ⟨X,1,none⟩=some (.string s):=HXc.out.cell hB (by simp) HX1.out
      clear hB hF
      simp only [execOp,ja,e25]
      first|rfl|(go_simp;try rfl)
     ·refine jz rfl rfl rfl rfl fun x1 y hB hF hD=>?_
      have e0:slot x1 0=.pointer (some ⟨F.fb,0,none⟩):=hF.at 0 rfl
      clear hB hF
      simp only [execOp,ja,e0]
      first|rfl|(go_simp;try rfl)
     ·refine jz rfl rfl rfl rfl fun x1 y hB hF hD=>?_
      have e7:slot x1 7=.pointer (some ⟨X,0,none⟩):=hF.at 7 rfl
      clear hB hF
      simp only [execOp,ja,e7]
      first|rfl|(go_simp;try rfl)
     ·refine jz rfl rfl rfl rfl fun x1 y hB hF hD=>?_
      obtain ⟨d0,-⟩:=hD
      have e28:slot x1 28=.pointer (some ⟨X,3,none⟩):=d0 rfl
      have hc:y.cell? ⟨X,3,none⟩=some (.slice (some ⟨xb,xo,none⟩) 1 z0):=HXc.out.cell hB (by simp) HX3.out
      clear hB hF
      simp only [execOp,ja,e28]
      first|rfl|(go_simp;try rfl)
     ·refine jz rfl rfl rfl rfl fun x1 y hB hF hD=>?_
      obtain ⟨d0,-⟩:=hD
      have e29:slot x1 29=.slice (some ⟨xb,xo,none⟩) 1 z0:=d0 rfl
      clear hB hF
      simp only [execOp,ja,e29]
      first|rfl|(go_simp;try rfl)
     ·refine jz rfl rfl rfl rfl fun x1 y hB hF hD=>?_
      obtain ⟨d0,-⟩:=hD
      have e30:slot x1 30=.pointer (some ⟨xb,xo,none⟩):=d0 rfl
      have h0:y.cell? ⟨xb,xo,none⟩=some (.int .i64 e0.kind):=jb (HBel.out y hB) He0.out.1
      have h1:y.cell? ⟨xb,xo+1,none⟩=some (.int .u64 e0.num):=jb (HBel.out y hB) He0.out.2.1
      have h2:y.cell? ⟨xb,xo+2,none⟩=some (.string e0.name):=jb (HBel.out y hB) He0.out.2.2.1
      have h3:y.cell? ⟨xb,xo+3,none⟩=some (.slice e0a e0.args.length e0c):=jb (HBel.out y hB) He0.out.2.2.2
      clear hB hF
      simp only [execOp,ja,e30]
      first|rfl|(go_simp;try rfl)
     ·refine stepC_turn (f:=34) rfl rfl rfl fun x1 y hJ hB hF hD=>⟨#[.pointer (some ⟨F.fb,0,none⟩),.agg #[.int .i64 e0.kind,.int .u64 e0.num,.string e0.name,.slice e0a e0.args.length e0c]],?_,?_⟩
      ·obtain ⟨d0,d1,-⟩:=hD
       have e27:slot x1 27=.pointer (some ⟨F.fb,0,none⟩):=d0 rfl
       have e31:slot x1 31=.agg #[.int .i64 e0.kind,.int .u64 e0.num,.string e0.name,.slice e0a e0.args.length e0c]:=d1 rfl
       have g27:=jh e27
       have g31:=jh e31
       clear hB hF e27 e31
       simp only [execOp]
       simp [go_sem,g27,g31]
      ·refine (HEX0.out _ y _ (HBel.out y hB) hJ (HFr.out y hB) HXI0.out HL0.out).mono ?_
       rintro e w' ⟨rfl,hk,hr,hu⟩
       rw [HVS.out] at hr hu
       exact ⟨hk,⟨hr,hu⟩,_,rfl,by rw [HVS.out];rfl⟩
    ·intro x1 y hB hF hP hJ
     obtain ⟨p0,p1,p2,p3,p4,p5,p6,p7,p8,p9,p10,p11,-⟩:=hP
     have hx:=jj hF [(21,.pointer (some ⟨F.fb,0,none⟩)),(22,.pointer (some ⟨F.fb,0,none⟩)),(23,.pointer (some ⟨F.fb,2,none⟩)),(24,.map (some F.vm)),(25,.pointer (some ⟨X,1,none⟩)),(26,.string s),(27,.pointer (some ⟨F.fb,0,none⟩)),(28,.pointer (some ⟨X,3,none⟩)),(29,.slice (some ⟨xb,xo,none⟩) 1 z0),(30,.pointer (some ⟨xb,xo,none⟩)),(31,.agg #[.int .i64 e0.kind,.int .u64 e0.num,.string e0.name,.slice e0a e0.args.length e0c]),(32,.int .u64 V0)] rfl ⟨p0,p1,p2,p3,p4,p5,p6,p7,p8,p9,p10,p11,trivial⟩
     obtain ⟨hr0,hu0⟩:E.run S0 y∧U64 V0:=hJ
     have HRy:=k8 hr0
     have HUy:=k8 hu0
     have HFy:=k8 (HFr.out y hB)
     have HKy:=k8 (HKW.out.trans (hB.mono (by simp)))
     clear hB hF hr0 hu0 p0 p1 p2 p3 p4 p5 p6 p7 p8 p9 p10 p11
     subst hx
     simp only [puts,Act.put,we,wg,wi,wj,wk]
     go_wp2_with (at_mapUpdate;go_loud (refine vd rfl _ _ _ _ rfl keyS 35 Tryz.underlying77 rfl HFy.out.vmap _ _ rfl rfl ?_))
     intro w4 hm4 hg4 _
     have hF4:=HFy.out.putV hm4 hg4 HUy.out
     have hR4:E.run S0 w4:=vh.other HOk.out.fix HRy.out HFy.out.vcalm HFy.out.lo.2.1 hg4
     have hK4:E.rk [F.vm] w w4:=HKy.out.trans (rk_grown hg4 (.inl (by simp)))
     have HF4:=k8 hF4
     have HR4:=k8 hR4
     have HK4:=k8 hK4
     clear hm4 hg4 hF4 hR4 hK4
     go_wp2_with fail
     go_roundw
     case rel=>exact ⟨k+1,hlt,by go_num,by rw [HTk.out],HK4.out,by rw [HTk.out];exact HR4.out,by rw [HTk.out];exact HF4.out,by rw [HTk.out];exact HUr.out⟩
     case measure=>simp [intOf];omega
   ·
    obtain ⟨e0,e1,rfl⟩:=len2 (xs:=xs) (by
     have h1:=har.2.2.1;have h2:=har.2.2.2.1
     simp only at h1 h2
     rw [show (js 1).least=2 from rfl] at h1;rw [show (js 1).most=2 from rfl] at h2;omega)
    obtain ⟨_,_,he,_,_,hra⟩:=HXs.out
    simp only [Value.slice.injEq] at he
    obtain ⟨rfl,-,rfl⟩:=he
    obtain ⟨xb,xo,rfl,hroa⟩:=hra (by simp)
    obtain ⟨e0a,e0c,hc0,hXI0⟩:=vg (hroa 0 e0 rfl)
    obtain ⟨e1a,e1c,hc1,hXI1⟩:=vg (hroa 1 e1 rfl)
    rw [Nat.zero_mul,Nat.add_zero] at hc0
    have He0:=k8 hc0
    have HXI0:=k8 hXI0
    have HEX0:=k8 (HAll.out e0 (by simp))
    have He1:=k8 hc1
    have HXI1:=k8 hXI1
    have HEX1:=k8 (HAll.out e1 (by simp))
    clear hc0 hXI0 hc1 hXI1 hra hroa
    simp only [List.length_cons,List.length_nil,Nat.zero_add] at *
    obtain ⟨⟨V0,S0⟩,hVS⟩:∃ r,E.ev F yv e0 ys=r:=⟨_,rfl⟩
    obtain ⟨⟨V1,S1⟩,hVS1⟩:∃ r,E.ev F yv e1 S0=r:=⟨_,rfl⟩
    rw [es_put,hVS] at HTk hlk
    simp only at HTk hlk
    rw [hVS1] at HTk hlk
    simp only at HTk hlk
    have hlk1:S1.opened.length≤1000000:=hlk
    have hm1:=ev_mono E F yv e1 S0
    rw [hVS1] at hm1
    have HL0:Hid ((E.ev F yv e0 ys).2.opened.length≤1000000):=by show _≤_;rw [hVS];exact wx hm1 hlk1
    have HL1:Hid ((E.ev F yv e1 S0).2.opened.length≤1000000):=by show _≤_;rw [hVS1];exact hlk1
    have HVS:=k8 hVS
    have HVS1:=k8 hVS1
    have hss:=Env.arr HOk.out (hnm (by trivial))
    obtain ⟨nn,hn1,hn2,hn3⟩:=Env.ref HOk.out hss
    have hsm:=HOk.out.fix.small nn (gg hn1)
    have HEl:=k8 (fun (y:World) (hf:E.fr F yv y) (hr:E.run S1 y) (hu:U64 V0)=>element_fr hr hf s hss hn3 (by omega) V0 hu)
    have HWd:=k8 (fun (y:World) (hr:E.run S1 y) (b:Nat) (hb:E.bk[(km E.secs F.ptrs s).row]?=some b)=>Env.word HOk.out hr hss V0 hb)
    generalize km E.secs F.ptrs s=r at *
    clear hVS hVS1 hlk hlk1 hm1 har hnm hfor HAll hss hn1 hn2 hn3 hsm
    obtain ⟨q00,q01,q02,q03⟩:=He0.out
    have q00:=jb HBr.out q00
    have q01:=jb HBr.out q01
    have q02:=jb HBr.out q02
    have q03:=jb HBr.out q03
    have qbl:=k9 wr _ q00
    go_wp2_with fail
    clear h0' h1' h2' h3' h4' h5' hbl q00 q01 q02 q03 qbl HBr
    generalize hWd:wr.alloc (.cells #[.int .i64 1,.string s,.int .i64 num,.slice (some ⟨xb,xo,none⟩) 2 z0,.slice x1 xt.length z1,.slice x2 xe.length z2] 58)=W at *
    have hWl:wr.heap.size<W.heap.size:=HXc.out.lt
    clear hWd
    generalize wr.heap.size=X at *
    refine (HEX0.out _ _ ys HBelW.out HRW.out HFW.out HXI0.out HL0.out).mono ?_
    rintro e' w1 ⟨rfl,hkn,hrn,hun⟩
    rw [HVS.out] at hrn hun ⊢
    have HK1:=k8 hkn
    have HR1:=k8 hrn
    have HU0:=k8 hun
    have HF1:=k8 (Env.frame HFW.out hkn)
    have HB1:=k8 (Env.below HOk.out HBelW.out hkn)
    clear hkn hrn hun
    simp only
    obtain ⟨q00,q01,q02,q03⟩:=He1.out
    have q00:=jb HB1.out q00
    have q01:=jb HB1.out q01
    have q02:=jb HB1.out q02
    have q03:=jb HB1.out q03
    have z3':=HXc.out.cell HK1.out (by simp) HX3.out
    go_wp2_with fail
    refine (HEX1.out _ _ S0 HB1.out HR1.out HF1.out HXI1.out HL1.out).mono ?_
    rintro e' w2 ⟨rfl,hkn,hrn,hun⟩
    rw [HVS1.out] at hrn hun ⊢
    have HK2:=k8 (HK1.out.trans hkn)
    have HR2:=k8 hrn
    have HU1:=k8 hun
    have HF2:=k8 (Env.frame HF1.out hkn)
    clear hkn hrn hun q00 q01 q02 q03 z3'
    simp only
    have z1':=HXc.out.cell HK2.out (by simp) HX1.out
    have HE2:=k8 (HEl.out w2 HF2.out HR2.out HU0.out)
    go_wp2_with fail
    refine HE2.out.mono ?_
    rintro e' w3 ⟨rfl,eb,rfl,heb⟩
    obtain ⟨c1',c2',_⟩:=HWd.out w3 HR2.out eb heb
    have hput:=vh.putW (v:=V1) HOk.out.fix HR2.out heb c1' HU1.out
    have hks:E.rk [] w3 (w3.setCell ⟨eb,r.at V0,none⟩ (.int .u64 V1)):=(RK.refl E.bk E.wb E.ob [] w3).setCell (p:=⟨eb,r.at V0,none⟩) (.inr (.inl (gg heb))) _
    have HP3:=k8 (show E.run (S1.put r V0 V1) (w3.setCell ⟨eb,r.at V0,none⟩ (.int .u64 V1)) from hput)
    have HF3:=k8 (Env.frame HF2.out hks)
    have HK3:=k8 (HKW.out.trans ((HK2.out.trans hks).mono (by simp)))
    have hel:=k9 w3 _ c1'
    clear heb hput hks HE2 z1'
    go_wp2_with fail
    go_roundw
    case rel=>exact ⟨k+1,hlt,by go_num,by rw [HTk.out],HK3.out,by rw [HTk.out];exact HP3.out,by rw [HTk.out];exact HF3.out,by rw [HTk.out];exact HUr.out⟩
    case measure=>simp [intOf];omega
   ·
    obtain ⟨e0,rfl⟩:=len1 (xs:=xs) (by
     have h1:=har.2.2.1;have h2:=har.2.2.2.1
     simp only at h1 h2
     rw [show (js 2).least=1 from rfl] at h1;rw [show (js 2).most=1 from rfl] at h2;omega)
    obtain ⟨_,_,he,_,_,hra⟩:=HXs.out
    simp only [Value.slice.injEq] at he
    obtain ⟨rfl,-,rfl⟩:=he
    obtain ⟨xb,xo,rfl,hroa⟩:=hra (by simp)
    obtain ⟨e0a,e0c,hc0,hXI0⟩:=vg (hroa 0 e0 rfl)
    rw [Nat.zero_mul,Nat.add_zero] at hc0
    have He0:=k8 hc0
    have HXI0:=k8 hXI0
    have HEX0:=k8 (HAll.out e0 (by simp))
    clear hc0 hXI0 hra hroa
    simp only [List.length_cons,List.length_nil,Nat.zero_add] at *
    obtain ⟨⟨V0,S0⟩,hVS⟩:∃ r,E.ev F yv e0 ys=r:=⟨_,rfl⟩
    rw [es_if,hVS] at HTk hlk
    simp only at HTk hlk
    have hl0:S0.opened.length≤1000000:=by
     refine wx ?_ hlk
     split
     ·exact ex_mono E F xt (yv,0,S0)
     ·exact ex_mono E F xe (yv,0,S0)
    have HL0:Hid ((E.ev F yv e0 ys).2.opened.length≤1000000):=by show _≤_;rw [hVS];exact hl0
    have HVS:=k8 hVS
    have Hlk:=k8 hlk
    clear hVS har hnm hfor HAll hl0 hlk
    obtain ⟨q00,q01,q02,q03⟩:=He0.out
    have q00:=jb HBr.out q00
    have q01:=jb HBr.out q01
    have q02:=jb HBr.out q02
    have q03:=jb HBr.out q03
    have qbl:=k9 wr _ q00
    go_wp2_with fail
    clear h0' h1' h2' h3' h4' h5' hbl q00 q01 q02 q03 qbl HBr
    generalize hWd:wr.alloc (.cells #[.int .i64 2,.string s,.int .i64 num,.slice (some ⟨xb,xo,none⟩) 1 z0,.slice x1 xt.length z1,.slice x2 xe.length z2] 58)=W at *
    have hWl:wr.heap.size<W.heap.size:=HXc.out.lt
    clear hWd
    generalize wr.heap.size=X at *
    refine (HEX0.out _ _ ys HBelW.out HRW.out HFW.out HXI0.out HL0.out).mono ?_
    rintro e' w1 ⟨rfl,hkn,hrn,hun⟩
    rw [HVS.out] at hrn hun ⊢
    have HK1:=k8 hkn
    have HR1:=k8 hrn
    have HU0:=k8 hun
    have HF1:=k8 (Env.frame HFW.out hkn)
    have HB1:=k8 (Env.below HOk.out HBelW.out hkn)
    clear hkn hrn hun
    simp only
    by_cases hv:V0=0
    ·have tv:(V0 != 0)=false:=by simp [hv]
     have hl2:=Hlk.out
     rw [if_neg (by simp [hv])] at hl2
     rw [if_neg (by simp [hv])] at HTk
     clear hv Hlk
     have z4':=HXc.out.cell HK1.out (by simp) HX5.out
     have HBo:=k8 (HIe.out yv _ w1 S0 HB1.out HR1.out HF1.out HXe.out hl2)
     generalize E.ex F xe (yv,0,S0)=rb at *
     clear hl2
     go_wp2_with fail
     refine HBo.out.mono ?_
     rintro e' w2 ⟨rfl,hk5,hr5,hf5,hu5⟩
     have HK5:=k8 (HKW.out.trans ((HK1.out.mono (by simp)).trans hk5))
     have HR5:=k8 hr5
     have HF5:=k8 hf5
     clear hk5 hr5 hf5 hu5 HBo z4'
     go_wp2_with fail
     go_roundw
     case rel=>exact ⟨k+1,hlt,by go_num,by rw [HTk.out],HK5.out,by rw [HTk.out];exact HR5.out,by rw [HTk.out];exact HF5.out,by rw [HTk.out];exact HUr.out⟩
     case measure=>simp [intOf];omega
    ·have tv:(V0 != 0)=true:=by simpa using hv
     have hl2:=Hlk.out
     rw [if_pos hv] at hl2
     rw [if_pos hv] at HTk
     clear hv Hlk
     have z4':=HXc.out.cell HK1.out (by simp) HX4.out
     have HBo:=k8 (HIt.out yv _ w1 S0 HB1.out HR1.out HF1.out HXt.out hl2)
     generalize E.ex F xt (yv,0,S0)=rb at *
     clear hl2
     go_wp2_with fail
     refine HBo.out.mono ?_
     rintro e' w2 ⟨rfl,hk5,hr5,hf5,hu5⟩
     have HK5:=k8 (HKW.out.trans ((HK1.out.mono (by simp)).trans hk5))
     have HR5:=k8 hr5
     have HF5:=k8 hf5
     clear hk5 hr5 hf5 hu5 HBo z4'
     go_wp2_with fail
     go_roundw
     case rel=>exact ⟨k+1,hlt,by go_num,by rw [HTk.out],HK5.out,by rw [HTk.out];exact HR5.out,by rw [HTk.out];exact HF5.out,by rw [HTk.out];exact HUr.out⟩
     case measure=>simp [intOf];omega
   ·
    have hfr:=hfor (by trivial)
    obtain ⟨nn,hnn⟩:∃ nn:Nat,num=nn:=⟨num.toNat,by omega⟩
    subst hnn
    rw [es_for,Int.toNat_natCast] at HTk hlk
    simp only at HTk hlk
    have HNr:=k8 hfr
    have Hlk:=k8 hlk
    clear hfor har hnm HAll hlk
    have hn64:nn≤64:=by omega
    go_wp2_with fail
    clear h0' h1' h2' h3' h4' h5' hbl HBr
    generalize hWd:wr.alloc (.cells #[.int .i64 3,.string s,.int .i64 nn,.slice x0 xs.length z0,.slice x1 xt.length z1,.slice x2 xe.length z2] 58)=W at *
    have hWl:wr.heap.size<W.heap.size:=HXc.out.lt
    clear hWd
    generalize wr.heap.size=X at *
    go_loopw [75] (fun iv wr=>∃ m:Nat,m≤nn∧iv=.int .i64 m∧E.rk [F.vm] W wr∧E.run (forN (forStep E F s xt) m (yv,ys)).2 wr∧E.fr F (forN (forStep E F s xt) m (yv,ys)).1 wr) (fun iv _=>nn - (intOf iv).toNat)
    case atStart=>exact ⟨0,gj _,rfl,RK.refl _ _ _ _ _,by rw [forN];exact HRW.out,by rw [forN];exact HFW.out⟩
    case round=>
     obtain ⟨m,hm,rfl,hK2,hR2,hF2⟩:=hrel
     by_cases hltm:m<nn
     ·have hstep:forN (forStep E F s xt) (m+1) (yv,ys)=forStep E F s xt m (forN (forStep E F s xt) m (yv,ys)):=by rw [forN]
      have hl3:=forN_mono E F s xt (yv,ys) (nn - (m+1)) (m+1)
      rw [show m+1+(nn - (m+1))=nn by omega] at hl3
      have hl4:=wx hl3 Hlk.out
      rw [hstep] at hl4
      have HSt:=k8 hstep
      have HMm:Hid ((m:Int) % 18446744073709551616=m):=by show _=_;omega
      have hBl2:Below E.w0.heap.size E.w0 wr:=HBelW.out.trans (hK2.below (B:=E.w0.heap.size) HBelW.out.size (fun b hb=>(HOk.out.fix.lo b hb).1) HOk.out.fix.wlo.1 (wx HOk.out.fix.wlo.1 (Nat.le_of_lt HOk.out.fix.wlo.2.1)) (fun b hb=>by
       simp only [wy] at hb
       subst hb
       have:=HFW.out.lo.2.1
       have:=HOk.out.fix.wlo
       omega))
      have HX1:=k8 (HXc.out.cell hK2 (by simpa using HVX.out) HX1.out)
      have HX4:=k8 (HXc.out.cell hK2 (by simpa using HVX.out) HX4.out)
      have HXc2:=k8 (HXc.out.next hK2 (by simpa using HVX.out))
      generalize forN (forStep E F s xt) m (yv,ys)=z at *
      obtain ⟨zv,zs⟩:=z
      simp only at hR2 hF2
      have HF2:=k8 hF2.cells.2.2.1
      have HFm:=k8 hF2
      have HRm:=k8 hR2
      have HKm:=k8 hK2
      have HBm:=k8 hBl2
      have Hl4:=k8 hl4
      clear hstep hl3 hl4 hK2 hR2 hF2 hBl2
      go_wp2_with fail
      refine je zi [.is (.pointer (some ⟨F.fb,0,none⟩)),.is (.pointer (some ⟨F.fb,0,none⟩)),.is (.pointer (some ⟨F.fb,2,none⟩)),.is (.map (some F.vm)),.is (.pointer (some ⟨X,1,none⟩)),.is (.string s),.is (.int .i64 m),.is (.int .u64 m)] (by kernel_rfl) 8 (by decide) (by kernel_rfl) _ rfl ?_ ?_
      ·refine ⟨?_,?_,?_,?_,?_,?_,?_,?_,trivial⟩
       ·refine jc rfl rfl rfl fun x1 y hB hF hD=>?_
        have e0:slot x1 0=.pointer (some ⟨F.fb,0,none⟩):=hF.at 0 rfl
        clear hB hF
        simp only [execOp,ja,e0]
        first|rfl|(go_simp;try rfl)
       ·refine jc rfl rfl rfl fun x1 y hB hF hD=>?_
        obtain ⟨d0,-⟩:=hD
        have e78:slot x1 78=.pointer (some ⟨F.fb,0,none⟩):=d0 rfl
        clear hB hF
        simp only [execOp,ja,e78]
        first|rfl|(go_simp;try rfl)
       ·refine jc rfl rfl rfl fun x1 y hB hF hD=>?_
        obtain ⟨d0,-⟩:=hD
        have e79:slot x1 79=.pointer (some ⟨F.fb,0,none⟩):=d0 rfl
        clear hB hF
        simp only [execOp,ja,e79]
        first|rfl|(go_simp;try rfl)
       ·refine jc rfl rfl rfl fun x1 y hB hF hD=>?_
        obtain ⟨d0,-⟩:=hD
        have e80:slot x1 80=.pointer (some ⟨F.fb,2,none⟩):=d0 rfl
        have hc:y.cell? ⟨F.fb,2,none⟩=some (.map (some F.vm)):=jb hB HF2.out
        clear hB hF
        simp only [execOp,ja,e80]
        first|rfl|(go_simp;try rfl)
       ·refine jc rfl rfl rfl fun x1 y hB hF hD=>?_
        have e7:slot x1 7=.pointer (some ⟨X,0,none⟩):=hF.at 7 rfl
        clear hB hF
        simp only [execOp,ja,e7]
        first|rfl|(go_simp;try rfl)
       ·refine jc rfl rfl rfl fun x1 y hB hF hD=>?_
        obtain ⟨d0,-⟩:=hD
        have e82:slot x1 82=.pointer (some ⟨X,1,none⟩):=d0 rfl
        have hc:y.cell? ⟨X,1,none⟩=some (.string s):=jb hB HX1.out
        clear hB hF
        simp only [execOp,ja,e82]
        first|rfl|(go_simp;try rfl)
       ·refine jc rfl rfl rfl fun x1 y hB hF hD=>?_
        have e10:slot x1 10=.int .i64 m:=hF.at 10 rfl
        clear hB hF
        simp only [execOp,ja,e10]
        first|rfl|(go_simp;try rfl)
       ·refine jc rfl rfl rfl fun x1 y hB hF hD=>?_
        obtain ⟨d0,-⟩:=hD
        have e84:slot x1 84=.int .i64 m:=d0 rfl
        have hmm:(m:Int) % 18446744073709551616=m:=HMm.out
        clear hB hF
        simp only [execOp,ja,e84]
        go_simp
        first|done|exact hmm|(rw [IntKind.wrap_u64];exact hmm)
      ·intro x1 y hB hF hP
       obtain ⟨p0,p1,p2,p3,p4,p5,p6,p7,-⟩:=hP
       have hx:=jj hF [(78,.pointer (some ⟨F.fb,0,none⟩)),(79,.pointer (some ⟨F.fb,0,none⟩)),(80,.pointer (some ⟨F.fb,2,none⟩)),(81,.map (some F.vm)),(82,.pointer (some ⟨X,1,none⟩)),(83,.string s),(84,.int .i64 m),(85,.int .u64 m)] rfl ⟨p0,p1,p2,p3,p4,p5,p6,p7,trivial⟩
       have HFy:=k8 (zx.next (M:=[]) HFm.out (j8 (bk:=E.bk) (wb:=E.wb) (ob:=E.ob) hB) (by simp) (by simp) (by simp))
       have HRy:Hid (E.run zs y):=vh.next HRm.out hB
       have HKy:=k8 (HKm.out.trans (j8 hB))
       have HBy:=k8 (HBm.out.trans (hB.mono HBm.out.size))
       have HX4:=k8 (jb hB HX4.out)
       have HXy:=k8 (HXc2.out.next (j8 (bk:=E.bk) (wb:=E.wb) (ob:=E.ob) (M:=[]) hB) (by simp))
       clear hB hF p0 p1 p2 p3 p4 p5 p6 p7
       subst hx
       simp only [puts,Act.put,we,wg,wi,wj,wk]
       go_wp2_with (at_mapUpdate;go_loud (refine vd rfl _ _ _ _ rfl keyS 35 Tryz.underlying77 rfl HFy.out.vmap _ _ rfl rfl ?_))
       intro w4 hm4 hg4 _
       have hF4:E.fr F (aput zv s m) w4:=HFy.out.putV hm4 hg4 ⟨by omega,by omega⟩
       have hR4:E.run zs w4:=vh.other HOk.out.fix HRy.out HFy.out.vcalm HFy.out.lo.2.1 hg4
       have hk4:E.rk [F.vm] y w4:=rk_grown hg4 (.inl (by simp))
       have hK4:E.rk [F.vm] W w4:=HKy.out.trans hk4
       have hB4:Below E.w0.heap.size E.w0 w4:=HBelW.out.trans (hK4.below (B:=E.w0.heap.size) HBelW.out.size (fun b hb=>(HOk.out.fix.lo b hb).1) HOk.out.fix.wlo.1 (wx HOk.out.fix.wlo.1 (Nat.le_of_lt HOk.out.fix.wlo.2.1)) (fun b hb=>by
        simp only [wy] at hb
        subst hb
        have:=HFW.out.lo.2.1
        have:=HOk.out.fix.wlo
        omega))
       have z4':=HXy.out.cell hk4 (by simpa using HVX.out) HX4.out
       have HBo:=k8 (HIt.out (aput zv s m) _ w4 zs hB4 hR4 hF4 HXt.out Hl4.out)
       have HSt2:Hid (forN (forStep E F s xt) (m+1) (yv,ys)=((E.ex F xt (aput zv s m,0,zs)).1,(E.ex F xt (aput zv s m,0,zs)).2.2)):=HSt.out
       have HK4:=k8 hK4
       generalize E.ex F xt (aput zv s m,0,zs)=rb at *
       clear hm4 hg4 hF4 hR4 hK4 hk4 hB4 HSt Hl4
       go_wp2_with fail
       refine HBo.out.mono ?_
       rintro e' w5 ⟨rfl,hk5,hr5,hf5,hu5⟩
       have HK5:=k8 (HK4.out.trans hk5)
       have HR5:=k8 hr5
       have HF5:=k8 hf5
       clear hk5 hr5 hf5 hu5 HBo z4'
       go_wp2_with fail
       go_roundw
       case rel=>exact ⟨m+1,hltm,by go_num,HK5.out,by rw [HSt2.out];exact HR5.out,by rw [HSt2.out];exact HF5.out⟩
       case measure=>simp [intOf];omega
     ·have hmm:m=nn:=by omega
      subst hmm
      have HKe:=k8 (HKW.out.trans hK2)
      have HRe:=k8 hR2
      have HFe:=k8 hF2
      clear hK2 hR2 hF2
      go_wp2_with fail
      go_roundw
      case rel=>exact ⟨k+1,hlt,by go_num,by rw [HTk.out],HKe.out,by rw [HTk.out];exact HRe.out,by rw [HTk.out];exact HFe.out,by rw [HTk.out];exact HUr.out⟩
      case measure=>simp [intOf];omega
   ·
    obtain ⟨e0,rfl⟩:=len1 (xs:=xs) (by
     have h1:=har.2.2.1;have h2:=har.2.2.2.1
     simp only at h1 h2
     rw [show (js 4).least=1 from rfl] at h1;rw [show (js 4).most=1 from rfl] at h2;omega)
    obtain ⟨_,_,he,_,_,hra⟩:=HXs.out
    simp only [Value.slice.injEq] at he
    obtain ⟨rfl,-,rfl⟩:=he
    obtain ⟨xb,xo,rfl,hroa⟩:=hra (by simp)
    obtain ⟨e0a,e0c,hc0,hXI0⟩:=vg (hroa 0 e0 rfl)
    rw [Nat.zero_mul,Nat.add_zero] at hc0
    have He0:=k8 hc0
    have HXI0:=k8 hXI0
    have HEX0:=k8 (HAll.out e0 (by simp))
    clear hc0 hXI0 hra hroa
    simp only [List.length_cons,List.length_nil,Nat.zero_add] at *
    obtain ⟨⟨V0,S0⟩,hVS⟩:∃ r,E.ev F yv e0 ys=r:=⟨_,rfl⟩
    rw [es_ret,hVS] at HTk hlk
    have HL0:Hid ((E.ev F yv e0 ys).2.opened.length≤1000000):=by show _≤_;rw [hVS];exact hlk
    have HVS:=k8 hVS
    clear hVS hlk har hnm hfor HAll
    obtain ⟨q00,q01,q02,q03⟩:=He0.out
    have q00:=jb HBr.out q00
    have q01:=jb HBr.out q01
    have q02:=jb HBr.out q02
    have q03:=jb HBr.out q03
    have qbl:=k9 wr _ q00
    go_wp2_with fail
    clear h0' h1' h2' h3' h4' h5' hbl q00 q01 q02 q03 qbl HBr
    generalize hWd:wr.alloc (.cells #[.int .i64 4,.string s,.int .i64 num,.slice (some ⟨xb,xo,none⟩) 1 z0,.slice x1 xt.length z1,.slice x2 xe.length z2] 58)=W at *
    have hWl:wr.heap.size<W.heap.size:=HXc.out.lt
    clear hWd
    generalize wr.heap.size=X at *
    refine (HEX0.out _ _ ys HBelW.out HRW.out HFW.out HXI0.out HL0.out).mono ?_
    rintro e' w1 ⟨rfl,hkn,hrn,hun⟩
    rw [HVS.out] at hrn hun ⊢
    have HK1:=k8 hkn
    have HR1:=k8 hrn
    have HU0:=k8 hun
    have HF1:=k8 (Env.frame HFW.out hkn)
    have HB1:=k8 (Env.below HOk.out HBelW.out hkn)
    clear hkn hrn hun
    simp only
    have HKe:=k8 (HKW.out.trans (HK1.out.mono (by simp)))
    go_wp2_with fail
    go_roundw
    case rel=>exact ⟨k+1,hlt,by go_num,by rw [HTk.out],HKe.out,by rw [HTk.out];exact HR1.out,by rw [HTk.out];exact HF1.out,by rw [HTk.out];exact HU0.out⟩
    case measure=>simp [intOf];omega
  ·have hkk:k=l.length:=by omega
   subst hkk
   rw [ww (wo _)] at hRr hFr hUr ⊢
   have HK:=k8 hKr
   have HR2:=k8 hRr
   have HF2:=k8 hFr
   have HU2:=k8 hUr
   clear hKr hRr hFr hUr
   generalize E.ex F l (vars,0,st)=y at *
   go_wp2_with fail
   go_ret
   exact ⟨rfl,HK.out,HR2.out,HF2.out,HU2.out⟩
end
section
open Go.RowKit
def WSl (w:World) (v:Value) (l:List Int):Prop:=∃ a c,v=.slice a l.length c∧l.length≤c∧l.length≤140737488351232∧(a=none→c=0)∧(l≠[]→∃ b o,a=some ⟨b,o,none⟩∧∀ (j:Nat) (x:Int),l[j]?=some x→w.cell? ⟨b,o+j,none⟩=some (.int .u64 x))
theorem WSl.below {w w':World} {v:Value} {l:List Int} (h:WSl w v l) (hb:Below w.heap.size w w'):WSl w' v l:=by
 obtain ⟨a,c,h1,h2,h3,h4,h6⟩:=h
 refine ⟨a,c,h1,h2,h3,h4,fun hn=>?_⟩
 obtain ⟨b,o,ha,hr⟩:=h6 hn
 exact ⟨b,o,ha,fun j x hj=>jb hb (hr j x hj)⟩
def WAt (w:World) (b o:Nat) (l:List Int):Prop:=∃ v,w.cell? ⟨b,o,none⟩=some v∧WSl w v l
theorem WAt.below {w w':World} (hb:Below w.heap.size w w') (l:List Int) (b o:Nat) (h:WAt w b o l):WAt w' b o l:=by
 obtain ⟨v,h1,h2⟩:=h
 exact ⟨v,jb hb h1,h2.below hb⟩
theorem clone_words (v:Value) (l:List Int) (w:World) (h:WSl w v l) (hl:l.length≤100000) :
  Calls Tryz.prog 24 #[v] w fun e w'=>Below w.heap.size w w'∧∃ v',e=.returned v'∧w'.ownsRow w.heap.size 35 1 v' l.length (l.map (Value.int .u64)):=by
 obtain ⟨a,c,rfl,hlc,hlm,hnil,hr⟩:=h
 cases a with
 | none=>
  obtain rfl:=hnil rfl
  have hl0:l=[]:=List.eq_nil_of_length_eq_zero (by omega)
  subst hl0
  have hq:∀ w,(binOp .eql 26 (.slice none 0 0) (.slice none 0 0)).run Tryz.prog w=.ok (.bool true) w:=fun _=>by kernel_rfl
  go_enter Tryz.func24,Tryz.ntmps24
  go_wp2
  go_ret
  exact ⟨wu _ _,_,rfl,by simp,.inl ⟨rfl,rfl⟩⟩
 | some ad=>
  have hq:∀ w,(binOp .eql 26 (.slice (some ad) l.length c) (.slice none 0 0)).run Tryz.prog w=.ok (.bool false) w:=fun _=>by kernel_rfl
  have hnews:∀ j u,(l.map (Value.int .u64))[j]?=some u→w.cell? (ad.add j)=some u:=by
   intro j u hj
   rw [List.getElem?_map] at hj
   cases ht:l[j]? with
   | none=>rw [ht] at hj;cases hj
   | some t=>
    rw [ht] at hj
    simp only [Option.map_some,Option.some.injEq] at hj
    subst hj
    obtain ⟨b,o,ha,hro⟩:=hr (by rintro rfl;simp at ht)
    simp only [Option.some.injEq] at ha
    subst ha
    have:=hro j t ht
    have ha:(⟨b,o,none⟩:Addr).add j=⟨b,o+j,none⟩:=by unfold Addr.add;split<;>simp_all
    rwa [ha]
  have HNw:=k8 hnews
  have hBl:=(wu w.heap.size w).alloc (wo _) (.cells #[] 35)
  have hown:(w.alloc (.cells #[] 35)).ownsRow w.heap.size 35 1 (.slice (some ⟨w.heap.size,0,none⟩) 0 0) 0 []:=by
   have h:=World.ownsRow_lit (base:=w.heap.size) (e:=35) (size:=1) w #[] 0 (wo _) (by simp [maxLen]) (by simp)
   simpa using h
  have HO:=k8 hown
  have HB:=k8 hBl
  obtain ⟨i0,hi,hz0,hz1,hz2⟩:=info_parts info_u64
  clear hr hnews hown hBl hnil
  go_enter Tryz.func24,Tryz.ntmps24
  go_wp2_with (at_builtin;go_loud (refine wpList_append_own _ rfl _ _ _ rfl w.heap.size 35 i0 _ 1 8 Tryz.underlying26 hi hz0 hz1 hz2 rfl (by omega) _ 0 [] rfl HO.out ad l.length c (l.map (Value.int .u64)) rfl (by simp) ?ca ?cb ?cc ?cd (by simp) ?_))
  case ca=>
   intro j u hj
   have h1:=HNw.out j u hj
   exact (World.cell?_alloc_lt w _ _ (k9 w _ h1)).trans h1
  case cb=>
   intro u hu
   obtain ⟨t,_,rfl⟩:=List.mem_map.1 hu
   rfl
  case cc=>simp only [maxLen];omega
  case cd=>omega
  intro v1 w1 ho1 hg1 _
  have HR:=k8 (show w1.ownsRow w.heap.size 35 1 v1 l.length (l.map (Value.int .u64)) from by simpa using ho1)
  have HB1:=k8 (j6 HB.out HO.out (wo _) HB.out.size hg1)
  clear ho1 hg1
  go_wp2
  go_ret
  exact ⟨HB1.out,_,rfl,HR.out⟩
theorem wsl_open {w:World} {v:Value} {l:List Int} (h:WSl w v l):∃ a c,v=.slice a l.length c∧l.length≤140737488351232:=by
 obtain ⟨a,c,h1,_,h3,_⟩:=h
 exact ⟨a,c,h1,h3⟩
theorem may1_any (x:Arr) (v:Value) (l:List Int) (w:World) (h:WSl w v l):Calls Tryz.prog 30 #[.agg #[.string x.name,.int .i64 x.len],v] w (Ret w (.bool (x.len == (l.length:Int)))):=by
 obtain ⟨a,c,rfl,hlm⟩:=wsl_open h
 have HB:=k8 ((wu w.heap.size w).alloc (wo _) (.cells #[.string x.name,.int .i64 x.len] 62))
 obtain ⟨B,hB⟩:∃ B,(x.len == (l.length:Int))=B:=⟨_,rfl⟩
 rw [hB]
 clear h
 go_enter Tryz.func30,Tryz.ntmps30
 go_wp2
 go_ret
 exact ⟨rfl,HB.out⟩
def vu (xs:List Arr) (ls:List (List Int)):Bool:=decide (xs.length=ls.length) && (xs.zip ls).all fun x=>x.1.len == (x.2.length:Int)
theorem shapes_any (v u:Value) (xs:List Arr) (ls:List (List Int)) (w:World) (h1:Sl 2 (ArrAt w) v xs) (h2:Sl 1 (WAt w) u ls) :
  Calls Tryz.prog 29 #[v,u,.func (.func 30) #[] #[]] w (Ret w (.bool (vu xs ls))):=by
 obtain ⟨a0,c0,rfl,hc0,hl0,hr0⟩:=h1
 obtain ⟨a1,c1,rfl,hc1,hl1,hr1⟩:=h2
 have hr0:=k8 hr0
 have hr1:=k8 hr1
 have eg:∀ args w,(callFunc 30 args).run Tryz.prog w=.ok (.enter 30 args) w:=fun _ _=>by kernel_rfl
 by_cases hln:xs.length=ls.length
 ·have hne:((xs.length:Int) != ls.length)=false:=by simp;omega
  have HLn:=k8 hln
  have hs:vu xs ls=(xs.zip ls).all fun x=>x.1.len == (x.2.length:Int):=by unfold vu;rw [decide_eq_true hln];rfl
  have HS:=k8 hs
  clear hs hln
  go_enter Tryz.func29,Tryz.ntmps29
  go_wp2_with fail
  go_loopw [17] (fun iv wr=>∃ k:Nat,k≤xs.length∧iv=.int .i64 k∧Below w.heap.size w wr∧((xs.zip ls).take k).all (fun x=>x.1.len == (x.2.length:Int))=true) (fun iv _=>xs.length - (intOf iv).toNat)
  case atStart=>exact ⟨0,gj _,rfl,wu _ _,rfl⟩
  case round=>
   obtain ⟨k,hk,rfl,hBr,hP⟩:=hrel
   by_cases hlt:k<xs.length
   ·have hltx:k<ls.length:=by have:=HLn.out;omega
    obtain ⟨b0,o0,rfl,hro0⟩:=hr0.out (by intro h;rw [h] at hlt;simp at hlt)
    obtain ⟨b1,o1,rfl,hro1⟩:=hr1.out (by intro h;rw [h] at hltx;simp at hltx)
    have hx:=hro0 k xs[k] (by simp [hlt])
    obtain ⟨u,hu,hul⟩:=hro1 k ls[k] (by simp [hltx])
    have hz:(xs.zip ls).take (k+1)=(xs.zip ls).take k++[(xs[k],ls[k])]:=by
     have hzl:k<(xs.zip ls).length:=by have:=HLn.out;rw [List.length_zip];omega
     rw [List.take_succ_eq_append_getElem hzl]
     simp
    have hcut:vu xs ls=(((xs.zip ls).take k).all (fun x=>x.1.len == (x.2.length:Int)) && ((xs[k].len == (ls[k].length:Int)) && ((xs.zip ls).drop (k+1)).all (fun x=>x.1.len == (x.2.length:Int)))):=by
     rw [HS.out]
     conv=>lhs;rw [← List.take_append_drop (k+1) (xs.zip ls),hz]
     simp only [List.all_append,List.all_cons,List.all_nil,Bool.and_true,Bool.and_assoc]
    have hz2:((xs.zip ls).take (k+1)).all (fun x=>x.1.len == (x.2.length:Int))=(((xs.zip ls).take k).all (fun x=>x.1.len == (x.2.length:Int)) && (xs[k].len == (ls[k].length:Int))):=by
     rw [hz]
     simp only [List.all_append,List.all_cons,List.all_nil,Bool.and_true]
    rw [hP,Bool.true_and] at hcut hz2
    rw [Nat.mul_one] at hu
    have q0:=jb hBr hx.1.1
    have q1:=jb hBr hx.2.1
    have q2:=jb hBr hu
    have hbl0:=k9 wr _ q0
    have hbl1:=k9 wr _ q2
    have hBl:=(wu wr.heap.size wr).alloc (wo _) (.cells #[.string xs[k].name,.int .i64 xs[k].len] 62)
    have hMy:=may1_any xs[k] u ls[k] (wr.alloc (.cells #[.string xs[k].name,.int .i64 xs[k].len] 62)) (hul.below (hBr.trans (hBl.mono hBr.size)))
    have HB:=k8 (hBr.trans (hBl.mono hBr.size))
    have HMy:=k8 hMy
    have HCut:=k8 hcut
    have HZ:=k8 hz2
    clear hro0 hro1 hx hu hul hz hcut hz2 hBl hMy hBr hP
    generalize xs[k]=x at *
    generalize ls[k]=l at *
    cases ht:(x.len == (l.length:Int)) with
    | true=>
     rw [ht] at HMy HZ
     clear ht HCut
     go_wp2_with fail
     refine HMy.out.mono ?_
     rintro e w2 ⟨rfl,hB2⟩
     have HB2:=k8 (HB.out.trans (hB2.mono HB.out.size))
     clear hB2 q0 q1 q2
     go_wp2_with fail
     go_roundw
     case rel=>exact ⟨k+1,hlt,by go_num,HB2.out,HZ.out⟩
     case measure=>simp [intOf];omega
    | false=>
     rw [ht] at HMy HCut
     rw [HCut.out]
     clear ht HZ
     go_wp2_with fail
     refine HMy.out.mono ?_
     rintro e w2 ⟨rfl,hB2⟩
     have HB2:=k8 (HB.out.trans (hB2.mono HB.out.size))
     clear hB2 q0 q1 q2
     go_wp2_with fail
     go_ret
     exact ⟨rfl,HB2.out⟩
   ·have hkk:k=xs.length:=by omega
    rw [ww (by have:=HLn.out;rw [List.length_zip];omega)] at hP
    have HR:Hid (vu xs ls=true):=by show _=_;rw [HS.out];exact hP
    have HB:=k8 hBr
    clear hkk hP hBr
    go_wp2_with fail
    go_ret
    exact ⟨by rw [HR.out];rfl,HB.out⟩
 ·have hs:vu xs ls=false:=by unfold vu;rw [decide_eq_false hln];rfl
  rw [hs]
  have hne:((xs.length:Int) != ls.length)=true:=by simp;omega
  clear hs
  go_enter Tryz.func29,Tryz.ntmps29
  go_wp2_with fail
  go_ret
  exact ⟨rfl,wu _ _⟩
end
section
open Go.RowKit
def belR:WR where
 r:=fun x y=>Below x.heap.size x y∧True
 refl:=fun x=>⟨wu _ _,trivial⟩
 trans:=fun x y z h k=>⟨h.1.trans (k.1.mono h.1.size),trivial⟩
 drew:=fun x=>⟨(wu _ _).drew,trivial⟩
theorem ve {T:WR} {P:Program} {ops fo:Array Oper} {Q:Exit→Act→World→Prop} {L:List (MT T)} {w₀:World} {a₀:Act} {i:Nat} {o:Oper} {j d:Nat} {want:Bool} (hgd:o.guard=some (j,want)) (hj:(ops[j]?).bind (·.dst)=some d)
  (h:∀ (a:Act) (w:World),T.r w₀ w→Frm fo a₀ a→DepsT L ops a w o.after.toList→slot a d=undef∧postT L i undef w):StepT P ops fo Q L w₀ a₀ i o:=by
 intro a w hB hF hD
 obtain ⟨hs,h⟩:=h a w hB hF hD
 have hy:yielded ops a.tmps j=none:=by
  unfold yielded
  rw [hj]
  unfold slot at hs
  rw [wn] at hs
  cases hx:a.tmps[d]? with
  | none=>simp [hx]
  | some v=>rw [hx] at hs;simp only [Option.getD_some] at hs;subst hs;simp [hx,undef]
 have hw:Region.wanted o (yielded ops a.tmps)=false:=by simp only [Region.wanted,hgd,hy];rfl
 rw [hw]
 exact h
def WorldIs (w:World) (secs:List (List Int)) (shared:List Int) (v:Value):Prop:=∃ a0 c0 a1 c1,v=.agg #[.slice a0 secs.length c0,.slice a1 shared.length c1]∧Sl 1 (WAt w) (.slice a0 secs.length c0) secs∧WSl w (.slice a1 shared.length c1) shared
def xu (n:Nat) (q:z8) (x:Int):Bool:=decide (q.kind=2→x≤n∧q.len≤n - x)
def mayS (p:Src) (f:Int) (args:List Int) (secs:List (List Int)) (shared:List Int):Bool:=
 if checkS p≠0∨f<0 then false else match p.funcs[f.toNat]? with
 | none=>false
 | some g=>if args.length≠g.params.length∨vu p.secrets secs=false∨512<shared.length then false else (g.params.zip args).all fun x=>xu shared.length x.1 x.2
theorem may_any {w0:World} {p:Src} {args:List Int} {secs:List (List Int)} {shared:List Int} (hWt:wtFs p.funcs≤100000) (v sv wv:Value) (f:Int) (w:World) (hB0:Below w0.heap.size w0 w) (hI:kn w0 p v) (hg:Glob w) (hA:WSl w0 sv args) (huA:∀ x∈args,U64 x) (hW:WorldIs w0 secs shared wv) :
  Calls Tryz.prog 17 #[v,.int .i64 f,sv,wv] w (Ret w (.bool (mayS p f args secs shared))):=by
 have hI0:=hI
 obtain ⟨a0,c0,pa,pc,rfl,hsec,hfun⟩:=hI
 obtain ⟨wa,wc,a1,c1,rfl,hws,hsh⟩:=hW
 have hA0:=hA
 obtain ⟨aa,ac,rfl,hcA,hlA,hnA,hrA⟩:=hA
 have hlsh:shared.length≤140737488351232:=by obtain ⟨_,_,_,_,h,_⟩:=hsh;exact h
 have hlw:secs.length≤140737488351232:=by obtain ⟨_,_,_,_,h,_⟩:=hws;exact h
 obtain ⟨_,_,he,hcf,hlf,hrf⟩:=hfun
 simp only [Value.slice.injEq] at he
 obtain ⟨rfl,-,rfl⟩:=he
 have hBl:Below w.heap.size w ((w.alloc (.cells #[.slice a0 p.secrets.length c0,.slice pa p.funcs.length pc] 25)).alloc (.cells #[.slice wa secs.length wc,.slice a1 shared.length c1] 29)):=((wu _ _).alloc (wo _) _).alloc (by (try simp)<;>omega) _
 have h0:((w.alloc (.cells #[.slice a0 p.secrets.length c0,.slice pa p.funcs.length pc] 25)).alloc (.cells #[.slice wa secs.length wc,.slice a1 shared.length c1] 29)).cell? ⟨w.heap.size,0,none⟩=some (.slice a0 p.secrets.length c0):=by simp
 have h1:((w.alloc (.cells #[.slice a0 p.secrets.length c0,.slice pa p.funcs.length pc] 25)).alloc (.cells #[.slice wa secs.length wc,.slice a1 shared.length c1] 29)).cell? ⟨w.heap.size,1,none⟩=some (.slice pa p.funcs.length pc):=by simp
 have h2:((w.alloc (.cells #[.slice a0 p.secrets.length c0,.slice pa p.funcs.length pc] 25)).alloc (.cells #[.slice wa secs.length wc,.slice a1 shared.length c1] 29)).cell? ⟨w.heap.size+1,0,none⟩=some (.slice wa secs.length wc):=by simp
 have h3:((w.alloc (.cells #[.slice a0 p.secrets.length c0,.slice pa p.funcs.length pc] 25)).alloc (.cells #[.slice wa secs.length wc,.slice a1 shared.length c1] 29)).cell? ⟨w.heap.size+1,1,none⟩=some (.slice a1 shared.length c1):=by simp
 have hBW:Below w0.heap.size w0 ((w.alloc (.cells #[.slice a0 p.secrets.length c0,.slice pa p.funcs.length pc] 25)).alloc (.cells #[.slice wa secs.length wc,.slice a1 shared.length c1] 29)):=hB0.trans (hBl.mono hB0.size)
 have HC:=k8 (fun (w1:World) (hb:Below ((w.alloc (.cells #[.slice a0 p.secrets.length c0,.slice pa p.funcs.length pc] 25)).alloc (.cells #[.slice wa secs.length wc,.slice a1 shared.length c1] 29)).heap.size ((w.alloc (.cells #[.slice a0 p.secrets.length c0,.slice pa p.funcs.length pc] 25)).alloc (.cells #[.slice wa secs.length wc,.slice a1 shared.length c1] 29)) w1)=>check_any hWt _ w1 (hBW.trans (hb.mono hBW.size)) hI0 (hg.below (hBl.trans (hb.mono hBl.size))))
 have HSp:=k8 (fun (w1:World) (hb:Below ((w.alloc (.cells #[.slice a0 p.secrets.length c0,.slice pa p.funcs.length pc] 25)).alloc (.cells #[.slice wa secs.length wc,.slice a1 shared.length c1] 29)).heap.size ((w.alloc (.cells #[.slice a0 p.secrets.length c0,.slice pa p.funcs.length pc] 25)).alloc (.cells #[.slice wa secs.length wc,.slice a1 shared.length c1] 29)) w1)=>shapes_any (.slice a0 p.secrets.length c0) (.slice wa secs.length wc) p.secrets secs w1 (hsec.imp (fun b o x _ hx=>ArrAt.below (hBW.trans (hb.mono hBW.size)) x b o hx)) (hws.imp (fun b o x _ hx=>WAt.below (hBW.trans (hb.mono hBW.size)) x b o hx)))
 have HP0:=k8 h0
 have HP1:=k8 h1
 have HW0:=k8 h2
 have HW1:=k8 h3
 have HBl:=k8 hBl
 have HBW:=k8 hBW
 have HRf:=k8 hrf
 have HRA:=k8 hrA
 have HUA:=k8 huA
 have hfine:=fun h=>srcFine_of (p:=p) h
 have hright:checkS p=0→kr p=0:=fun h=>by
  rw [checkS_eq] at h
  by_cases hr:kr p=0
  ·exact hr
  ·rw [if_pos hr] at h;exact absurd h hr
 have HFine:=k8 (fun h=>hfine (hright h))
 obtain ⟨C,hC⟩:∃ C,checkS p=C:=⟨_,rfl⟩
 obtain ⟨M,hM⟩:∃ M,mayS p f args secs shared=M:=⟨_,rfl⟩
 have hMay:=hM
 unfold mayS at hMay
 rw [hC] at HC HFine hMay
 rw [hM]
 clear hM hC hI0 hsec hws hA0 hrA hnA huA hsh hrf hfine hright hBl hBW hB0 hg h0 h1 h2 h3
 go_enter Tryz.func17,Tryz.ntmps17
 go_wp2_with fail
 refine (HC.out _ (wu _ _)).mono ?_
 rintro e w1 ⟨rfl,hB1⟩
 have HB1:=k8 hB1
 have p1:=jb hB1 HP1.out
 have w1':=jb hB1 HW1.out
 clear hB1
 by_cases hc0:C=0
 ·subst hc0
  by_cases hf0:f<0
  ·rw [if_pos (.inr hf0)] at hMay
   subst hMay
   have tf:decide (f<0)=true:=by simpa using hf0
   go_wp2_with fail
   go_ret
   exact ⟨rfl,HBl.out.trans (HB1.out.mono HBl.out.size)⟩
  ·rw [if_neg (by simp;omega)] at hMay
   obtain ⟨fn,rfl⟩:∃ fn:Nat,f=fn:=⟨f.toNat,by omega⟩
   rw [Int.toNat_natCast] at hMay
   by_cases hfl:fn<p.funcs.length
   ·have tn:decide (p.funcs.length≤fn)=false:=by simp;omega
    have tn2:(p.funcs.length≤fn)=False:=by simp;omega
    obtain ⟨g,hgf⟩:∃ g,p.funcs[fn]?=some g:=⟨_,List.getElem?_eq_getElem hfl⟩
    rw [hgf] at hMay
    simp only at hMay
    have hFun:=(HFine.out rfl).funs fn g hgf
    obtain ⟨fb,fo,rfl,hrow⟩:=HRf.out (by intro h;rw [h] at hfl;simp at hfl)
    obtain ⟨ga,gc,gba,gbc,g0,g1,g2,g3,hgI⟩:=(hrow fn g hgf).open
    obtain ⟨_,_,_,_,_,_,hgps,-⟩:=hgI
    have hgp:=hgps
    obtain ⟨_,_,he,hcp,hlp,hrp⟩:=hgp
    simp only [Value.slice.injEq] at he
    obtain ⟨rfl,-,rfl⟩:=he
    have HG2:=k8 g2
    have HRp:=k8 hrp
    have hprm:=hFun.params
    have HPrm:=k8 hprm
    clear g0 g1 g2 g3 hrow hgps hrp hFun hprm
    have g2':=jb (HBW.out.trans (HB1.out.mono HBW.out.size)) HG2.out
    have hfb:=k9 w1 _ g2'
    by_cases hla:args.length=g.params.length
    ·have HLa:=k8 hla
     have tla:((args.length:Int) != g.params.length)=false:=by simp;omega
     have HB1s:=HSp.out w1 HB1.out
     obtain ⟨sh,hshp⟩:∃ sh,vu p.secrets secs=sh:=⟨_,rfl⟩
     rw [hshp] at HB1s hMay
     have HSh:=k8 HB1s
     have p0:=jb HB1.out HP0.out
     have w0':=jb HB1.out HW0.out
     have hla':¬ (args.length≠g.params.length):=fun h=>h hla
     simp only [hla',false_or] at hMay
     have HMay:=k8 hMay
     clear hMay hla hla' hshp HB1s
     go_wp2_with fail
     refine HSh.out.mono ?_
     rintro e w2 ⟨rfl,hB2⟩
     have hB12:=HB1.out.trans (hB2.mono HB1.out.size)
     have HB2:=k8 hB12
     clear hB2 HSh p1 w1' g2' p0 w0'
     have w1':=jb hB12 HW1.out
     have hMay:=HMay.out
     cases sh with
     | false=>
      rw [if_pos (.inl rfl)] at hMay
      subst hMay
      clear hB12
      go_wp2_with fail
      go_ret
      exact ⟨rfl,HBl.out.trans (HB2.out.mono HBl.out.size)⟩
     | true=>
      by_cases h512:512<shared.length
      ·rw [if_pos (.inr h512)] at hMay
       subst hMay
       have t5:decide (512<(shared.length:Int))=true:=by simp;omega
       clear hB12
       go_wp2_with fail
       go_ret
       exact ⟨rfl,HBl.out.trans (HB2.out.mono HBl.out.size)⟩
      ·rw [if_neg (by simp;omega)] at hMay
       have t5:decide (512<(shared.length:Int))=false:=by simp;omega
       have p1:=jb hB12 HP1.out
       have g2':=jb (HBW.out.trans (hB12.mono HBW.out.size)) HG2.out
       have hfb:=k9 w2 _ g2'
       have HMay:=k8 hMay
       clear hMay hB12
       go_wp2_with fail
       clear p1 g2' w1'
       go_loopw [58] (fun iv wr=>∃ k:Nat,k≤g.params.length∧iv=.int .i64 k∧Below w2.heap.size w2 wr∧((g.params.zip args).take k).all (fun x=>xu shared.length x.1 x.2)=true) (fun iv _=>g.params.length - (intOf iv).toNat)
       case atStart=>exact ⟨0,gj _,rfl,wu _ _,rfl⟩
       case round=>
        obtain ⟨k,hk,rfl,hBr,hP⟩:=hrel
        by_cases hlt:k<g.params.length
        ·have hltx:k<args.length:=by have:=HLa.out;omega
         obtain ⟨qb,qo,rfl,hroq⟩:=HRp.out (by intro h;rw [h] at hlt;simp at hlt)
         obtain ⟨ab,ao,rfl,hroa⟩:=HRA.out (by intro h;rw [h] at hltx;simp at hltx)
         have hq:=hroq k g.params[k] (by simp [hlt])
         have hx:=hroa k args[k] (by simp [hltx])
         have hxu:=HUA.out _ (List.getElem_mem hltx)
         have hqk:=HPrm.out.2 _ (List.getElem_mem hlt)
         have hz:(g.params.zip args).take (k+1)=(g.params.zip args).take k++[(g.params[k],args[k])]:=by
          have hzl:k<(g.params.zip args).length:=by rw [List.length_zip];omega
          rw [List.take_succ_eq_append_getElem hzl]
          simp
         have hcut:M=(((g.params.zip args).take k).all (fun x=>xu shared.length x.1 x.2) && (xu shared.length g.params[k] args[k] && ((g.params.zip args).drop (k+1)).all (fun x=>xu shared.length x.1 x.2))):=by
          rw [← HMay.out]
          conv=>lhs;rw [← List.take_append_drop (k+1) (g.params.zip args),hz]
          simp only [List.all_append,List.all_cons,List.all_nil,Bool.and_true,Bool.and_assoc]
         have hz2:((g.params.zip args).take (k+1)).all (fun x=>xu shared.length x.1 x.2)=(((g.params.zip args).take k).all (fun x=>xu shared.length x.1 x.2) && xu shared.length g.params[k] args[k]):=by
          rw [hz]
          simp only [List.all_append,List.all_cons,List.all_nil,Bool.and_true]
         rw [hP,Bool.true_and] at hcut hz2
         have hBE:=HBW.out.trans ((HB2.out.trans (hBr.mono HB2.out.size)).mono HBW.out.size)
         have q0:=jb hBE hq.1.1
         have q1:=jb hBE hq.2.1
         have q2:=jb hBE hq.2.2.1
         have hbq:=k9 wr _ q0
         have hBx:=(wu wr.heap.size wr).alloc (wo _) (.cells #[.string g.params[k].name,.int .i64 g.params[k].kind,.int .i64 g.params[k].len] 56)
         have HX:=k8 (jb (hBE.trans (hBx.mono hBE.size)) hx)
         have hB2x:=HB2.out.trans ((hBr.trans (hBx.mono hBr.size)).mono HB2.out.size)
         have HW1:=k8 (jb hB2x HW1.out)
         have HBx:=k8 (hBr.trans (hBx.mono hBr.size))
         have HCut:=k8 hcut
         have HZ:=k8 hz2
         have HXu:=k8 hxu
         have HQk:=k8 hqk
         have HIk:=k8 hltx
         have HNm:Hid ((shared.length:Int) % 18446744073709551616=shared.length):=by show _=_;omega
         clear hroq hroa hq hx hxu hqk hz hcut hz2 hBE hBx hBr hP hB2x
         generalize g.params[k]=q at *
         generalize args[k]=x at *
         have HQ1:=k8 (show (wr.alloc (.cells #[.string q.name,.int .i64 q.kind,.int .i64 q.len] 56)).cell? ⟨wr.heap.size,1,none⟩=some (.int .i64 q.kind) by simp)
         have HQ2:=k8 (show (wr.alloc (.cells #[.string q.name,.int .i64 q.kind,.int .i64 q.len] 56)).cell? ⟨wr.heap.size,2,none⟩=some (.int .i64 q.len) by simp)
         by_cases hq2:q.kind=2
         ·have tq:(q.kind == 2)=true:=by simpa using hq2
          have hql:=HQk.out.2.2 hq2
          by_cases hgt:(shared.length:Int)<x
          ·have HGt:Hid (decide ((shared.length:Int)<x)=true):=by show _=_;simpa using hgt
           have hM:M=false:=by
            rw [HCut.out]
            have:xu shared.length q x=false:=by unfold xu;rw [decide_eq_false];intro h;have:=h hq2;omega
            rw [this];rfl
           subst hM
           clear hgt hq2 HCut HZ
           go_wp2_with fail
           generalize hXX:wr.heap.size=X at *
           clear hXX
           refine zy zi (belR) [.is (.pointer (some ⟨X,1,none⟩)),.is (.int .i64 q.kind),.is (.bool true),.is (.bool true),.is (.slice (some ⟨ab,ao,none⟩) args.length ac),.is (.int .i64 k),.is (.pointer (some ⟨ab,ao+k,none⟩)),.is (.int .u64 x),.is (.pointer (some ⟨w.heap.size+1,1,none⟩)),.is (.slice a1 shared.length c1),.is (.int .i64 shared.length),.is (.int .u64 shared.length),.is (.bool true),.is (.bool true),.is undef,.is undef,.is undef,.is undef,.is undef,.is undef,.is undef,.is undef,.is undef,.is undef,.is undef,.is undef,.is undef,.is (.bool true)] (by kernel_rfl) 28 (by decide) (by kernel_rfl) _ rfl ?_ ?_
           ·refine ⟨?_,?_,?_,?_,?_,?_,?_,?_,?_,?_,?_,?_,?_,?_,?_,?_,?_,?_,?_,?_,?_,?_,?_,?_,?_,?_,?_,?_,trivial⟩
            ·refine jp rfl rfl rfl fun x1 y hB hF hD=>?_
             obtain ⟨hK,hC⟩:=hB
             have e11:slot x1 11=.pointer (some ⟨X,0,none⟩):=hF.at 11 rfl
             clear hK hC hF
             simp only [execOp,ja,e11]
             first|rfl|(go_simp;try rfl)
            ·refine jp rfl rfl rfl fun x1 y hB hF hD=>?_
             obtain ⟨d0,-⟩:=hD
             obtain ⟨hK,hC⟩:=hB
             have e63:slot x1 63=.pointer (some ⟨X,1,none⟩):=d0 rfl
             have hc:y.cell? ⟨X,1,none⟩=some (.int .i64 q.kind):=jb hK HQ1.out
             clear hK hC hF
             simp only [execOp,ja,e63]
             first|rfl|(go_simp;try rfl)
            ·refine jp rfl rfl rfl fun x1 y hB hF hD=>?_
             obtain ⟨d0,-⟩:=hD
             obtain ⟨hK,hC⟩:=hB
             have e64:slot x1 64=.int .i64 q.kind:=d0 rfl
             clear hK hC hF
             simp only [execOp,ja,e64]
             first|rfl|(go_simp;try rfl)
            ·refine jp rfl rfl rfl fun x1 y hB hF hD=>?_
             obtain ⟨d0,-⟩:=hD
             obtain ⟨hK,hC⟩:=hB
             have e65:slot x1 65=.bool true:=d0 rfl
             clear hK hC hF
             simp only [execOp,ja,e65]
             first|rfl|(go_simp;try rfl)
            ·refine jf rfl rfl fun x1 y hB hF hD=>?_
             obtain ⟨d0,-⟩:=hD
             obtain ⟨hK,hC⟩:=hB
             refine ⟨true,d0 rfl,?_⟩
             rw [if_pos rfl]
             refine zr rfl ?_ rfl
             have e2:slot x1 2=.slice (some ⟨ab,ao,none⟩) args.length ac:=hF.at 2 rfl
             clear hK hC hF
             simp only [execOp,ja,e2]
             first|rfl|(go_simp;try rfl)
            ·refine jf rfl rfl fun x1 y hB hF hD=>?_
             obtain ⟨d0,-⟩:=hD
             obtain ⟨hK,hC⟩:=hB
             refine ⟨true,d0 rfl,?_⟩
             rw [if_pos rfl]
             refine zr rfl ?_ rfl
             have e10:slot x1 10=.int .i64 k:=hF.at 10 rfl
             clear hK hC hF
             simp only [execOp,ja,e10]
             first|rfl|(go_simp;try rfl)
            ·refine jf rfl rfl fun x1 y hB hF hD=>?_
             obtain ⟨d0,d1,d2,-⟩:=hD
             obtain ⟨hK,hC⟩:=hB
             refine ⟨true,d2 rfl,?_⟩
             rw [if_pos rfl]
             refine zr rfl ?_ rfl
             have e67:slot x1 67=.slice (some ⟨ab,ao,none⟩) args.length ac:=d0 rfl
             have e68:slot x1 68=.int .i64 k:=d1 rfl
             have hik:k<args.length:=HIk.out
             clear hK hC hF
             simp only [execOp,ja,e67,e68]
             first|rfl|(go_simp;try rfl)
            ·refine jf rfl rfl fun x1 y hB hF hD=>?_
             obtain ⟨d0,d1,-⟩:=hD
             obtain ⟨hK,hC⟩:=hB
             refine ⟨true,d1 rfl,?_⟩
             rw [if_pos rfl]
             refine zr rfl ?_ rfl
             have e69:slot x1 69=.pointer (some ⟨ab,ao+k,none⟩):=d0 rfl
             have hc:y.cell? ⟨ab,ao+k,none⟩=some (.int .u64 x):=jb hK HX.out
             clear hK hC hF
             simp only [execOp,ja,e69]
             first|rfl|(go_simp;try rfl)
            ·refine jf rfl rfl fun x1 y hB hF hD=>?_
             obtain ⟨d0,-⟩:=hD
             obtain ⟨hK,hC⟩:=hB
             refine ⟨true,d0 rfl,?_⟩
             rw [if_pos rfl]
             refine zr rfl ?_ rfl
             have e7:slot x1 7=.pointer (some ⟨w.heap.size+1,0,none⟩):=hF.at 7 rfl
             clear hK hC hF
             simp only [execOp,ja,e7]
             first|rfl|(go_simp;try rfl)
            ·refine jf rfl rfl fun x1 y hB hF hD=>?_
             obtain ⟨d0,d1,-⟩:=hD
             obtain ⟨hK,hC⟩:=hB
             refine ⟨true,d1 rfl,?_⟩
             rw [if_pos rfl]
             refine zr rfl ?_ rfl
             have e71:slot x1 71=.pointer (some ⟨w.heap.size+1,1,none⟩):=d0 rfl
             have hc:y.cell? ⟨w.heap.size+1,1,none⟩=some (.slice a1 shared.length c1):=jb hK HW1.out
             clear hK hC hF
             simp only [execOp,ja,e71]
             first|rfl|(go_simp;try rfl)
            ·refine jf rfl rfl fun x1 y hB hF hD=>?_
             obtain ⟨d0,d1,-⟩:=hD
             obtain ⟨hK,hC⟩:=hB
             refine ⟨true,d1 rfl,?_⟩
             rw [if_pos rfl]
             refine zr rfl ?_ rfl
             have e72:slot x1 72=.slice a1 shared.length c1:=d0 rfl
             have g72:=jh e72
             clear hK hC hF e72
             simp only [execOp]
             simp [go_sem,g72]
            ·refine jf rfl rfl fun x1 y hB hF hD=>?_
             obtain ⟨d0,d1,-⟩:=hD
             obtain ⟨hK,hC⟩:=hB
             refine ⟨true,d1 rfl,?_⟩
             rw [if_pos rfl]
             refine zr rfl ?_ rfl
             have e73:slot x1 73=.int .i64 shared.length:=d0 rfl
             have hmm:(shared.length:Int) % 18446744073709551616=shared.length:=HNm.out
             clear hK hC hF
             simp only [execOp,ja,e73]
             go_simp
             first|done|exact hmm|(rw [IntKind.wrap_u64];exact hmm)
            ·refine jf rfl rfl fun x1 y hB hF hD=>?_
             obtain ⟨d0,d1,d2,-⟩:=hD
             obtain ⟨hK,hC⟩:=hB
             refine ⟨true,d2 rfl,?_⟩
             rw [if_pos rfl]
             refine zr rfl ?_ rfl
             have e70:slot x1 70=.int .u64 x:=d0 rfl
             have e74:slot x1 74=.int .u64 shared.length:=d1 rfl
             have hgt:decide ((shared.length:Int)<x)=true:=HGt.out
             clear hK hC hF
             simp only [execOp,ja,e70,e74]
             first|rfl|(go_simp;try rfl)
            ·refine jf rfl rfl fun x1 y hB hF hD=>?_
             obtain ⟨d0,d1,-⟩:=hD
             obtain ⟨hK,hC⟩:=hB
             refine ⟨true,d1 rfl,?_⟩
             rw [if_pos rfl]
             refine zr rfl ?_ rfl
             have e75:slot x1 75=.bool true:=d0 rfl
             clear hK hC hF
             simp only [execOp,ja,e75]
             first|rfl|(go_simp;try rfl)
            ·refine jf rfl rfl fun x1 y hB hF hD=>?_
             obtain ⟨d0,-⟩:=hD
             exact ⟨true,d0 rfl,by rw [if_neg (by decide)];first|rfl|exact trivial⟩
            ·refine jf rfl rfl fun x1 y hB hF hD=>?_
             obtain ⟨d0,d1,-⟩:=hD
             exact ⟨true,d1 rfl,by rw [if_neg (by decide)];first|rfl|exact trivial⟩
            ·refine jf rfl rfl fun x1 y hB hF hD=>?_
             obtain ⟨d0,d1,-⟩:=hD
             exact ⟨true,d1 rfl,by rw [if_neg (by decide)];first|rfl|exact trivial⟩
            ·refine jf rfl rfl fun x1 y hB hF hD=>?_
             obtain ⟨d0,d1,-⟩:=hD
             exact ⟨true,d1 rfl,by rw [if_neg (by decide)];first|rfl|exact trivial⟩
            ·refine jf rfl rfl fun x1 y hB hF hD=>?_
             obtain ⟨d0,-⟩:=hD
             exact ⟨true,d0 rfl,by rw [if_neg (by decide)];first|rfl|exact trivial⟩
            ·refine jf rfl rfl fun x1 y hB hF hD=>?_
             obtain ⟨d0,-⟩:=hD
             exact ⟨true,d0 rfl,by rw [if_neg (by decide)];first|rfl|exact trivial⟩
            ·refine jf rfl rfl fun x1 y hB hF hD=>?_
             obtain ⟨d0,d1,d2,-⟩:=hD
             exact ⟨true,d2 rfl,by rw [if_neg (by decide)];first|rfl|exact trivial⟩
            ·refine jf rfl rfl fun x1 y hB hF hD=>?_
             obtain ⟨d0,d1,-⟩:=hD
             exact ⟨true,d1 rfl,by rw [if_neg (by decide)];first|rfl|exact trivial⟩
            ·refine jf rfl rfl fun x1 y hB hF hD=>?_
             obtain ⟨d0,d1,d2,-⟩:=hD
             exact ⟨true,d2 rfl,by rw [if_neg (by decide)];first|rfl|exact trivial⟩
            ·refine jf rfl rfl fun x1 y hB hF hD=>?_
             obtain ⟨d0,-⟩:=hD
             exact ⟨true,d0 rfl,by rw [if_neg (by decide)];first|rfl|exact trivial⟩
            ·refine jf rfl rfl fun x1 y hB hF hD=>?_
             obtain ⟨d0,d1,-⟩:=hD
             exact ⟨true,d1 rfl,by rw [if_neg (by decide)];first|rfl|exact trivial⟩
            ·refine jf rfl rfl fun x1 y hB hF hD=>?_
             obtain ⟨d0,d1,-⟩:=hD
             exact ⟨true,d1 rfl,by rw [if_neg (by decide)];first|rfl|exact trivial⟩
            ·refine jf rfl rfl fun x1 y hB hF hD=>?_
             obtain ⟨d0,d1,d2,-⟩:=hD
             exact ⟨true,d2 rfl,by rw [if_neg (by decide)];first|rfl|exact trivial⟩
            ·refine jf rfl rfl fun x1 y hB hF hD=>?_
             obtain ⟨d0,d1,d2,-⟩:=hD
             refine ⟨true,d2 rfl,?_⟩
             rw [if_pos rfl]
             refine zr rfl ?_ rfl
             have e76:slot x1 76=.bool true:=d0 rfl
             clear hB hF
             simp only [execOp,ja,e76]
             first|rfl|(go_simp;try rfl)
           ·intro x1 y hB hF hP
            obtain ⟨p0,p1,p2,p3,p4,p5,p6,p7,p8,p9,p10,p11,p12,p13,p14,p15,p16,p17,p18,p19,p20,p21,p22,p23,p24,p25,p26,p27,-⟩:=hP
            obtain ⟨hK,hC⟩:=hB
            have hx:=jj hF [(63,.pointer (some ⟨X,1,none⟩)),(64,.int .i64 q.kind),(65,.bool true),(66,.bool true),(67,.slice (some ⟨ab,ao,none⟩) args.length ac),(68,.int .i64 k),(69,.pointer (some ⟨ab,ao+k,none⟩)),(70,.int .u64 x),(71,.pointer (some ⟨w.heap.size+1,1,none⟩)),(72,.slice a1 shared.length c1),(73,.int .i64 shared.length),(74,.int .u64 shared.length),(75,.bool true),(76,.bool true),(77,undef),(78,undef),(79,undef),(80,undef),(81,undef),(82,undef),(83,undef),(84,undef),(85,undef),(86,undef),(87,undef),(88,undef),(89,undef),(90,.bool true)] rfl ⟨p0,p1,p2,p3,p4,p5,p6,p7,p8,p9,p10,p11,p12,p13,p14,p15,p16,p17,p18,p19,p20,p21,p22,p23,p24,p25,p26,p27,trivial⟩
            have HBy:=k8 (HBx.out.trans (hK.mono HBx.out.size))
            clear hK hC hF p0 p1 p2 p3 p4 p5 p6 p7 p8 p9 p10 p11 p12 p13 p14 p15 p16 p17 p18 p19 p20 p21 p22 p23 p24 p25 p26 p27
            subst hx
            simp only [puts,Act.put,we,wg,wi,wj,wk]
            go_wp2_with fail
            go_ret
            exact ⟨rfl,HBl.out.trans ((HB2.out.trans (HBy.out.mono HB2.out.size)).mono HBl.out.size)⟩
          ·have HGt:Hid (decide ((shared.length:Int)<x)=false):=by show _=_;simpa using hgt
           obtain ⟨B,hB⟩:∃ B,decide ((shared.length:Int) - x<q.len)=B:=⟨_,rfl⟩
           have HLt:=k8 hB
           have hxu:=HXu.out
           have HSm:Hid (((shared.length:Int) - x) % 18446744073709551616=shared.length - x):=by show _=_;have:=hxu.1;have:=hxu.2;omega
           have HLm:Hid (q.len % 18446744073709551616=q.len):=by show _=_;omega
           have hfit:xu shared.length q x=!B:=by
            unfold xu
            rw [← hB]
            by_cases h:(shared.length:Int) - x<q.len
            ·rw [decide_eq_true h,decide_eq_false];· rfl
             intro h2;have:=h2 hq2;omega
            ·rw [decide_eq_false h,decide_eq_true];· rfl
             intro _;omega
           rw [hfit] at HCut HZ
           clear hgt hq2 hB hfit hxu
           go_wp2_with fail
           generalize hXX:wr.heap.size=X at *
           clear hXX
           refine zy zi (belR) [.is (.pointer (some ⟨X,1,none⟩)),.is (.int .i64 q.kind),.is (.bool true),.is (.bool true),.is (.slice (some ⟨ab,ao,none⟩) args.length ac),.is (.int .i64 k),.is (.pointer (some ⟨ab,ao+k,none⟩)),.is (.int .u64 x),.is (.pointer (some ⟨w.heap.size+1,1,none⟩)),.is (.slice a1 shared.length c1),.is (.int .i64 shared.length),.is (.int .u64 shared.length),.is (.bool false),.is (.bool false),.is (.pointer (some ⟨w.heap.size+1,1,none⟩)),.is (.slice a1 shared.length c1),.is (.int .i64 shared.length),.is (.int .u64 shared.length),.is (.slice (some ⟨ab,ao,none⟩) args.length ac),.is (.int .i64 k),.is (.pointer (some ⟨ab,ao+k,none⟩)),.is (.int .u64 x),.is (.int .u64 (shared.length - x)),.is (.pointer (some ⟨X,2,none⟩)),.is (.int .i64 q.len),.is (.int .u64 q.len),.is (.bool B),.is (.bool B)] (by kernel_rfl) 28 (by decide) (by kernel_rfl) _ rfl ?_ ?_
           ·refine ⟨?_,?_,?_,?_,?_,?_,?_,?_,?_,?_,?_,?_,?_,?_,?_,?_,?_,?_,?_,?_,?_,?_,?_,?_,?_,?_,?_,?_,trivial⟩
            ·refine jp rfl rfl rfl fun x1 y hB hF hD=>?_
             obtain ⟨hK,hC⟩:=hB
             have e11:slot x1 11=.pointer (some ⟨X,0,none⟩):=hF.at 11 rfl
             clear hK hC hF
             simp only [execOp,ja,e11]
             first|rfl|(go_simp;try rfl)
            ·refine jp rfl rfl rfl fun x1 y hB hF hD=>?_
             obtain ⟨d0,-⟩:=hD
             obtain ⟨hK,hC⟩:=hB
             have e63:slot x1 63=.pointer (some ⟨X,1,none⟩):=d0 rfl
             have hc:y.cell? ⟨X,1,none⟩=some (.int .i64 q.kind):=jb hK HQ1.out
             clear hK hC hF
             simp only [execOp,ja,e63]
             first|rfl|(go_simp;try rfl)
            ·refine jp rfl rfl rfl fun x1 y hB hF hD=>?_
             obtain ⟨d0,-⟩:=hD
             obtain ⟨hK,hC⟩:=hB
             have e64:slot x1 64=.int .i64 q.kind:=d0 rfl
             clear hK hC hF
             simp only [execOp,ja,e64]
             first|rfl|(go_simp;try rfl)
            ·refine jp rfl rfl rfl fun x1 y hB hF hD=>?_
             obtain ⟨d0,-⟩:=hD
             obtain ⟨hK,hC⟩:=hB
             have e65:slot x1 65=.bool true:=d0 rfl
             clear hK hC hF
             simp only [execOp,ja,e65]
             first|rfl|(go_simp;try rfl)
            ·refine jf rfl rfl fun x1 y hB hF hD=>?_
             obtain ⟨d0,-⟩:=hD
             obtain ⟨hK,hC⟩:=hB
             refine ⟨true,d0 rfl,?_⟩
             rw [if_pos rfl]
             refine zr rfl ?_ rfl
             have e2:slot x1 2=.slice (some ⟨ab,ao,none⟩) args.length ac:=hF.at 2 rfl
             clear hK hC hF
             simp only [execOp,ja,e2]
             first|rfl|(go_simp;try rfl)
            ·refine jf rfl rfl fun x1 y hB hF hD=>?_
             obtain ⟨d0,-⟩:=hD
             obtain ⟨hK,hC⟩:=hB
             refine ⟨true,d0 rfl,?_⟩
             rw [if_pos rfl]
             refine zr rfl ?_ rfl
             have e10:slot x1 10=.int .i64 k:=hF.at 10 rfl
             clear hK hC hF
             simp only [execOp,ja,e10]
             first|rfl|(go_simp;try rfl)
            ·refine jf rfl rfl fun x1 y hB hF hD=>?_
             obtain ⟨d0,d1,d2,-⟩:=hD
             obtain ⟨hK,hC⟩:=hB
             refine ⟨true,d2 rfl,?_⟩
             rw [if_pos rfl]
             refine zr rfl ?_ rfl
             have e67:slot x1 67=.slice (some ⟨ab,ao,none⟩) args.length ac:=d0 rfl
             have e68:slot x1 68=.int .i64 k:=d1 rfl
             have hik:k<args.length:=HIk.out
             clear hK hC hF
             simp only [execOp,ja,e67,e68]
             first|rfl|(go_simp;try rfl)
            ·refine jf rfl rfl fun x1 y hB hF hD=>?_
             obtain ⟨d0,d1,-⟩:=hD
             obtain ⟨hK,hC⟩:=hB
             refine ⟨true,d1 rfl,?_⟩
             rw [if_pos rfl]
             refine zr rfl ?_ rfl
             have e69:slot x1 69=.pointer (some ⟨ab,ao+k,none⟩):=d0 rfl
             have hc:y.cell? ⟨ab,ao+k,none⟩=some (.int .u64 x):=jb hK HX.out
             clear hK hC hF
             simp only [execOp,ja,e69]
             first|rfl|(go_simp;try rfl)
            ·refine jf rfl rfl fun x1 y hB hF hD=>?_
             obtain ⟨d0,-⟩:=hD
             obtain ⟨hK,hC⟩:=hB
             refine ⟨true,d0 rfl,?_⟩
             rw [if_pos rfl]
             refine zr rfl ?_ rfl
             have e7:slot x1 7=.pointer (some ⟨w.heap.size+1,0,none⟩):=hF.at 7 rfl
             clear hK hC hF
             simp only [execOp,ja,e7]
             first|rfl|(go_simp;try rfl)
            ·refine jf rfl rfl fun x1 y hB hF hD=>?_
             obtain ⟨d0,d1,-⟩:=hD
             obtain ⟨hK,hC⟩:=hB
             refine ⟨true,d1 rfl,?_⟩
             rw [if_pos rfl]
             refine zr rfl ?_ rfl
             have e71:slot x1 71=.pointer (some ⟨w.heap.size+1,1,none⟩):=d0 rfl
             have hc:y.cell? ⟨w.heap.size+1,1,none⟩=some (.slice a1 shared.length c1):=jb hK HW1.out
             clear hK hC hF
             simp only [execOp,ja,e71]
             first|rfl|(go_simp;try rfl)
            ·refine jf rfl rfl fun x1 y hB hF hD=>?_
             obtain ⟨d0,d1,-⟩:=hD
             obtain ⟨hK,hC⟩:=hB
             refine ⟨true,d1 rfl,?_⟩
             rw [if_pos rfl]
             refine zr rfl ?_ rfl
             have e72:slot x1 72=.slice a1 shared.length c1:=d0 rfl
             have g72:=jh e72
             clear hK hC hF e72
             simp only [execOp]
             simp [go_sem,g72]
            ·refine jf rfl rfl fun x1 y hB hF hD=>?_
             obtain ⟨d0,d1,-⟩:=hD
             obtain ⟨hK,hC⟩:=hB
             refine ⟨true,d1 rfl,?_⟩
             rw [if_pos rfl]
             refine zr rfl ?_ rfl
             have e73:slot x1 73=.int .i64 shared.length:=d0 rfl
             have hmm:(shared.length:Int) % 18446744073709551616=shared.length:=HNm.out
             clear hK hC hF
             simp only [execOp,ja,e73]
             go_simp
             first|done|exact hmm|(rw [IntKind.wrap_u64];exact hmm)
            ·refine jf rfl rfl fun x1 y hB hF hD=>?_
             obtain ⟨d0,d1,d2,-⟩:=hD
             obtain ⟨hK,hC⟩:=hB
             refine ⟨true,d2 rfl,?_⟩
             rw [if_pos rfl]
             refine zr rfl ?_ rfl
             have e70:slot x1 70=.int .u64 x:=d0 rfl
             have e74:slot x1 74=.int .u64 shared.length:=d1 rfl
             have hgt:decide ((shared.length:Int)<x)=false:=HGt.out
             clear hK hC hF
             simp only [execOp,ja,e70,e74]
             first|rfl|(go_simp;try rfl)
            ·refine jf rfl rfl fun x1 y hB hF hD=>?_
             obtain ⟨d0,d1,-⟩:=hD
             obtain ⟨hK,hC⟩:=hB
             refine ⟨true,d1 rfl,?_⟩
             rw [if_pos rfl]
             refine zr rfl ?_ rfl
             have e75:slot x1 75=.bool false:=d0 rfl
             clear hK hC hF
             simp only [execOp,ja,e75]
             first|rfl|(go_simp;try rfl)
            ·refine jf rfl rfl fun x1 y hB hF hD=>?_
             obtain ⟨d0,-⟩:=hD
             obtain ⟨hK,hC⟩:=hB
             refine ⟨false,d0 rfl,?_⟩
             rw [if_pos rfl]
             refine zr rfl ?_ rfl
             have e7:slot x1 7=.pointer (some ⟨w.heap.size+1,0,none⟩):=hF.at 7 rfl
             clear hK hC hF
             simp only [execOp,ja,e7]
             first|rfl|(go_simp;try rfl)
            ·refine jf rfl rfl fun x1 y hB hF hD=>?_
             obtain ⟨d0,d1,-⟩:=hD
             obtain ⟨hK,hC⟩:=hB
             refine ⟨false,d1 rfl,?_⟩
             rw [if_pos rfl]
             refine zr rfl ?_ rfl
             have e77:slot x1 77=.pointer (some ⟨w.heap.size+1,1,none⟩):=d0 rfl
             have hc:y.cell? ⟨w.heap.size+1,1,none⟩=some (.slice a1 shared.length c1):=jb hK HW1.out
             clear hK hC hF
             simp only [execOp,ja,e77]
             first|rfl|(go_simp;try rfl)
            ·refine jf rfl rfl fun x1 y hB hF hD=>?_
             obtain ⟨d0,d1,-⟩:=hD
             obtain ⟨hK,hC⟩:=hB
             refine ⟨false,d1 rfl,?_⟩
             rw [if_pos rfl]
             refine zr rfl ?_ rfl
             have e78:slot x1 78=.slice a1 shared.length c1:=d0 rfl
             have g78:=jh e78
             clear hK hC hF e78
             simp only [execOp]
             simp [go_sem,g78]
            ·refine jf rfl rfl fun x1 y hB hF hD=>?_
             obtain ⟨d0,d1,-⟩:=hD
             obtain ⟨hK,hC⟩:=hB
             refine ⟨false,d1 rfl,?_⟩
             rw [if_pos rfl]
             refine zr rfl ?_ rfl
             have e79:slot x1 79=.int .i64 shared.length:=d0 rfl
             have hmm:(shared.length:Int) % 18446744073709551616=shared.length:=HNm.out
             clear hK hC hF
             simp only [execOp,ja,e79]
             go_simp
             first|done|exact hmm|(rw [IntKind.wrap_u64];exact hmm)
            ·refine jf rfl rfl fun x1 y hB hF hD=>?_
             obtain ⟨d0,-⟩:=hD
             obtain ⟨hK,hC⟩:=hB
             refine ⟨false,d0 rfl,?_⟩
             rw [if_pos rfl]
             refine zr rfl ?_ rfl
             have e2:slot x1 2=.slice (some ⟨ab,ao,none⟩) args.length ac:=hF.at 2 rfl
             clear hK hC hF
             simp only [execOp,ja,e2]
             first|rfl|(go_simp;try rfl)
            ·refine jf rfl rfl fun x1 y hB hF hD=>?_
             obtain ⟨d0,-⟩:=hD
             obtain ⟨hK,hC⟩:=hB
             refine ⟨false,d0 rfl,?_⟩
             rw [if_pos rfl]
             refine zr rfl ?_ rfl
             have e10:slot x1 10=.int .i64 k:=hF.at 10 rfl
             clear hK hC hF
             simp only [execOp,ja,e10]
             first|rfl|(go_simp;try rfl)
            ·refine jf rfl rfl fun x1 y hB hF hD=>?_
             obtain ⟨d0,d1,d2,-⟩:=hD
             obtain ⟨hK,hC⟩:=hB
             refine ⟨false,d2 rfl,?_⟩
             rw [if_pos rfl]
             refine zr rfl ?_ rfl
             have e81:slot x1 81=.slice (some ⟨ab,ao,none⟩) args.length ac:=d0 rfl
             have e82:slot x1 82=.int .i64 k:=d1 rfl
             have hik:k<args.length:=HIk.out
             clear hK hC hF
             simp only [execOp,ja,e81,e82]
             first|rfl|(go_simp;try rfl)
            ·refine jf rfl rfl fun x1 y hB hF hD=>?_
             obtain ⟨d0,d1,-⟩:=hD
             obtain ⟨hK,hC⟩:=hB
             refine ⟨false,d1 rfl,?_⟩
             rw [if_pos rfl]
             refine zr rfl ?_ rfl
             have e83:slot x1 83=.pointer (some ⟨ab,ao+k,none⟩):=d0 rfl
             have hc:y.cell? ⟨ab,ao+k,none⟩=some (.int .u64 x):=jb hK HX.out
             clear hK hC hF
             simp only [execOp,ja,e83]
             first|rfl|(go_simp;try rfl)
            ·refine jf rfl rfl fun x1 y hB hF hD=>?_
             obtain ⟨d0,d1,d2,-⟩:=hD
             obtain ⟨hK,hC⟩:=hB
             refine ⟨false,d2 rfl,?_⟩
             rw [if_pos rfl]
             refine zr rfl ?_ rfl
             have e80:slot x1 80=.int .u64 shared.length:=d0 rfl
             have e84:slot x1 84=.int .u64 x:=d1 rfl
             have hmm:((shared.length:Int) - x) % 18446744073709551616=shared.length - x:=HSm.out
             clear hK hC hF
             simp only [execOp,ja,e80,e84]
             go_simp
             first|done|exact hmm|(rw [IntKind.wrap_u64];exact hmm)
            ·refine jf rfl rfl fun x1 y hB hF hD=>?_
             obtain ⟨d0,-⟩:=hD
             obtain ⟨hK,hC⟩:=hB
             refine ⟨false,d0 rfl,?_⟩
             rw [if_pos rfl]
             refine zr rfl ?_ rfl
             have e11:slot x1 11=.pointer (some ⟨X,0,none⟩):=hF.at 11 rfl
             clear hK hC hF
             simp only [execOp,ja,e11]
             first|rfl|(go_simp;try rfl)
            ·refine jf rfl rfl fun x1 y hB hF hD=>?_
             obtain ⟨d0,d1,-⟩:=hD
             obtain ⟨hK,hC⟩:=hB
             refine ⟨false,d1 rfl,?_⟩
             rw [if_pos rfl]
             refine zr rfl ?_ rfl
             have e86:slot x1 86=.pointer (some ⟨X,2,none⟩):=d0 rfl
             have hc:y.cell? ⟨X,2,none⟩=some (.int .i64 q.len):=jb hK HQ2.out
             clear hK hC hF
             simp only [execOp,ja,e86]
             first|rfl|(go_simp;try rfl)
            ·refine jf rfl rfl fun x1 y hB hF hD=>?_
             obtain ⟨d0,d1,-⟩:=hD
             obtain ⟨hK,hC⟩:=hB
             refine ⟨false,d1 rfl,?_⟩
             rw [if_pos rfl]
             refine zr rfl ?_ rfl
             have e87:slot x1 87=.int .i64 q.len:=d0 rfl
             have hmm:q.len % 18446744073709551616=q.len:=HLm.out
             clear hK hC hF
             simp only [execOp,ja,e87]
             go_simp
             first|done|exact hmm|(rw [IntKind.wrap_u64];exact hmm)
            ·refine jf rfl rfl fun x1 y hB hF hD=>?_
             obtain ⟨d0,d1,d2,-⟩:=hD
             obtain ⟨hK,hC⟩:=hB
             refine ⟨false,d2 rfl,?_⟩
             rw [if_pos rfl]
             refine zr rfl ?_ rfl
             have e85:slot x1 85=.int .u64 (shared.length - x):=d0 rfl
             have e88:slot x1 88=.int .u64 q.len:=d1 rfl
             have hlt:decide ((shared.length:Int) - x<q.len)=B:=HLt.out
             clear hK hC hF
             simp only [execOp,ja,e85,e88]
             first|rfl|(go_simp;try rfl)
            ·refine jf rfl rfl fun x1 y hB hF hD=>?_
             obtain ⟨d0,d1,d2,-⟩:=hD
             obtain ⟨hK,hC⟩:=hB
             refine ⟨true,d2 rfl,?_⟩
             rw [if_pos rfl]
             refine zr rfl ?_ rfl
             have e76:slot x1 76=.bool false:=d0 rfl
             have e89:slot x1 89=.bool B:=d1 rfl
             clear hK hC hF
             simp only [execOp,ja,e76,e89]
             first|rfl|(go_simp;try rfl)
           ·intro x1 y hB hF hP
            obtain ⟨p0,p1,p2,p3,p4,p5,p6,p7,p8,p9,p10,p11,p12,p13,p14,p15,p16,p17,p18,p19,p20,p21,p22,p23,p24,p25,p26,p27,-⟩:=hP
            obtain ⟨hK,hC⟩:=hB
            have hx:=jj hF [(63,.pointer (some ⟨X,1,none⟩)),(64,.int .i64 q.kind),(65,.bool true),(66,.bool true),(67,.slice (some ⟨ab,ao,none⟩) args.length ac),(68,.int .i64 k),(69,.pointer (some ⟨ab,ao+k,none⟩)),(70,.int .u64 x),(71,.pointer (some ⟨w.heap.size+1,1,none⟩)),(72,.slice a1 shared.length c1),(73,.int .i64 shared.length),(74,.int .u64 shared.length),(75,.bool false),(76,.bool false),(77,.pointer (some ⟨w.heap.size+1,1,none⟩)),(78,.slice a1 shared.length c1),(79,.int .i64 shared.length),(80,.int .u64 shared.length),(81,.slice (some ⟨ab,ao,none⟩) args.length ac),(82,.int .i64 k),(83,.pointer (some ⟨ab,ao+k,none⟩)),(84,.int .u64 x),(85,.int .u64 (shared.length - x)),(86,.pointer (some ⟨X,2,none⟩)),(87,.int .i64 q.len),(88,.int .u64 q.len),(89,.bool B),(90,.bool B)] rfl ⟨p0,p1,p2,p3,p4,p5,p6,p7,p8,p9,p10,p11,p12,p13,p14,p15,p16,p17,p18,p19,p20,p21,p22,p23,p24,p25,p26,p27,trivial⟩
            have HBy:=k8 (HBx.out.trans (hK.mono HBx.out.size))
            clear hK hC hF p0 p1 p2 p3 p4 p5 p6 p7 p8 p9 p10 p11 p12 p13 p14 p15 p16 p17 p18 p19 p20 p21 p22 p23 p24 p25 p26 p27
            subst hx
            simp only [puts,Act.put,we,wg,wi,wj,wk]
            cases B with
            | true=>
             have hM:M=false:=by rw [HCut.out];rfl
             subst hM
             go_wp2_with fail
             go_ret
             exact ⟨rfl,HBl.out.trans ((HB2.out.trans (HBy.out.mono HB2.out.size)).mono HBl.out.size)⟩
            | false=>
             go_wp2_with fail
             go_roundw
             case rel=>exact ⟨k+1,hlt,by go_num,HBy.out,HZ.out⟩
             case measure=>simp [intOf];omega
         ·have tq:(q.kind == 2)=false:=by simpa using hq2
          have hfit:xu shared.length q x=true:=by unfold xu;rw [decide_eq_true];intro h;exact absurd h hq2
          rw [hfit] at HZ
          clear hq2 hfit HCut
          go_wp2_with fail
          generalize hXX:wr.heap.size=X at *
          clear hXX
          refine zy zi (belR) [.is (.pointer (some ⟨X,1,none⟩)),.is (.int .i64 q.kind),.is (.bool false),.is (.bool false),.is undef,.is undef,.is undef,.is undef,.is undef,.is undef,.is undef,.is undef,.is undef,.is undef,.is undef,.is undef,.is undef,.is undef,.is undef,.is undef,.is undef,.is undef,.is undef,.is undef,.is undef,.is undef,.is undef,.is undef] (by kernel_rfl) 28 (by decide) (by kernel_rfl) _ rfl ?_ ?_
          ·refine ⟨?_,?_,?_,?_,?_,?_,?_,?_,?_,?_,?_,?_,?_,?_,?_,?_,?_,?_,?_,?_,?_,?_,?_,?_,?_,?_,?_,?_,trivial⟩
           ·refine jp rfl rfl rfl fun x1 y hB hF hD=>?_
            obtain ⟨hK,hC⟩:=hB
            have e11:slot x1 11=.pointer (some ⟨X,0,none⟩):=hF.at 11 rfl
            clear hK hC hF
            simp only [execOp,ja,e11]
            first|rfl|(go_simp;try rfl)
           ·refine jp rfl rfl rfl fun x1 y hB hF hD=>?_
            obtain ⟨d0,-⟩:=hD
            obtain ⟨hK,hC⟩:=hB
            have e63:slot x1 63=.pointer (some ⟨X,1,none⟩):=d0 rfl
            have hc:y.cell? ⟨X,1,none⟩=some (.int .i64 q.kind):=jb hK HQ1.out
            clear hK hC hF
            simp only [execOp,ja,e63]
            first|rfl|(go_simp;try rfl)
           ·refine jp rfl rfl rfl fun x1 y hB hF hD=>?_
            obtain ⟨d0,-⟩:=hD
            obtain ⟨hK,hC⟩:=hB
            have e64:slot x1 64=.int .i64 q.kind:=d0 rfl
            clear hK hC hF
            simp only [execOp,ja,e64]
            first|rfl|(go_simp;try rfl)
           ·refine jp rfl rfl rfl fun x1 y hB hF hD=>?_
            obtain ⟨d0,-⟩:=hD
            obtain ⟨hK,hC⟩:=hB
            have e65:slot x1 65=.bool false:=d0 rfl
            clear hK hC hF
            simp only [execOp,ja,e65]
            first|rfl|(go_simp;try rfl)
           ·refine jf rfl rfl fun x1 y hB hF hD=>?_
            obtain ⟨d0,-⟩:=hD
            exact ⟨false,d0 rfl,by rw [if_neg (by decide)];first|rfl|exact trivial⟩
           ·refine jf rfl rfl fun x1 y hB hF hD=>?_
            obtain ⟨d0,-⟩:=hD
            exact ⟨false,d0 rfl,by rw [if_neg (by decide)];first|rfl|exact trivial⟩
           ·refine jf rfl rfl fun x1 y hB hF hD=>?_
            obtain ⟨d0,d1,d2,-⟩:=hD
            exact ⟨false,d2 rfl,by rw [if_neg (by decide)];first|rfl|exact trivial⟩
           ·refine jf rfl rfl fun x1 y hB hF hD=>?_
            obtain ⟨d0,d1,-⟩:=hD
            exact ⟨false,d1 rfl,by rw [if_neg (by decide)];first|rfl|exact trivial⟩
           ·refine jf rfl rfl fun x1 y hB hF hD=>?_
            obtain ⟨d0,-⟩:=hD
            exact ⟨false,d0 rfl,by rw [if_neg (by decide)];first|rfl|exact trivial⟩
           ·refine jf rfl rfl fun x1 y hB hF hD=>?_
            obtain ⟨d0,d1,-⟩:=hD
            exact ⟨false,d1 rfl,by rw [if_neg (by decide)];first|rfl|exact trivial⟩
           ·refine jf rfl rfl fun x1 y hB hF hD=>?_
            obtain ⟨d0,d1,-⟩:=hD
            exact ⟨false,d1 rfl,by rw [if_neg (by decide)];first|rfl|exact trivial⟩
           ·refine jf rfl rfl fun x1 y hB hF hD=>?_
            obtain ⟨d0,d1,-⟩:=hD
            exact ⟨false,d1 rfl,by rw [if_neg (by decide)];first|rfl|exact trivial⟩
           ·refine jf rfl rfl fun x1 y hB hF hD=>?_
            obtain ⟨d0,d1,d2,-⟩:=hD
            exact ⟨false,d2 rfl,by rw [if_neg (by decide)];first|rfl|exact trivial⟩
           ·refine jf rfl rfl fun x1 y hB hF hD=>?_
            obtain ⟨d0,d1,-⟩:=hD
            exact ⟨false,d1 rfl,by rw [if_neg (by decide)];first|rfl|exact trivial⟩
           ·refine ve rfl rfl fun x1 y hB hF hD=>?_
            obtain ⟨d0,-⟩:=hD
            exact ⟨d0 rfl,rfl⟩
           ·refine ve rfl rfl fun x1 y hB hF hD=>?_
            obtain ⟨d0,d1,-⟩:=hD
            exact ⟨d1 rfl,rfl⟩
           ·refine ve rfl rfl fun x1 y hB hF hD=>?_
            obtain ⟨d0,d1,-⟩:=hD
            exact ⟨d1 rfl,rfl⟩
           ·refine ve rfl rfl fun x1 y hB hF hD=>?_
            obtain ⟨d0,d1,-⟩:=hD
            exact ⟨d1 rfl,rfl⟩
           ·refine ve rfl rfl fun x1 y hB hF hD=>?_
            obtain ⟨d0,-⟩:=hD
            exact ⟨d0 rfl,rfl⟩
           ·refine ve rfl rfl fun x1 y hB hF hD=>?_
            obtain ⟨d0,-⟩:=hD
            exact ⟨d0 rfl,rfl⟩
           ·refine ve rfl rfl fun x1 y hB hF hD=>?_
            obtain ⟨d0,d1,d2,-⟩:=hD
            exact ⟨d2 rfl,rfl⟩
           ·refine ve rfl rfl fun x1 y hB hF hD=>?_
            obtain ⟨d0,d1,-⟩:=hD
            exact ⟨d1 rfl,rfl⟩
           ·refine ve rfl rfl fun x1 y hB hF hD=>?_
            obtain ⟨d0,d1,d2,-⟩:=hD
            exact ⟨d2 rfl,rfl⟩
           ·refine ve rfl rfl fun x1 y hB hF hD=>?_
            obtain ⟨d0,-⟩:=hD
            exact ⟨d0 rfl,rfl⟩
           ·refine ve rfl rfl fun x1 y hB hF hD=>?_
            obtain ⟨d0,d1,-⟩:=hD
            exact ⟨d1 rfl,rfl⟩
           ·refine ve rfl rfl fun x1 y hB hF hD=>?_
            obtain ⟨d0,d1,-⟩:=hD
            exact ⟨d1 rfl,rfl⟩
           ·refine ve rfl rfl fun x1 y hB hF hD=>?_
            obtain ⟨d0,d1,d2,-⟩:=hD
            exact ⟨d2 rfl,rfl⟩
           ·refine jf rfl rfl fun x1 y hB hF hD=>?_
            obtain ⟨d0,d1,d2,-⟩:=hD
            exact ⟨false,d2 rfl,by rw [if_neg (by decide)];first|rfl|exact trivial⟩
          ·intro x1 y hB hF hP
           obtain ⟨p0,p1,p2,p3,p4,p5,p6,p7,p8,p9,p10,p11,p12,p13,p14,p15,p16,p17,p18,p19,p20,p21,p22,p23,p24,p25,p26,p27,-⟩:=hP
           obtain ⟨hK,hC⟩:=hB
           have hx:=jj hF [(63,.pointer (some ⟨X,1,none⟩)),(64,.int .i64 q.kind),(65,.bool false),(66,.bool false),(67,undef),(68,undef),(69,undef),(70,undef),(71,undef),(72,undef),(73,undef),(74,undef),(75,undef),(76,undef),(77,undef),(78,undef),(79,undef),(80,undef),(81,undef),(82,undef),(83,undef),(84,undef),(85,undef),(86,undef),(87,undef),(88,undef),(89,undef),(90,undef)] rfl ⟨p0,p1,p2,p3,p4,p5,p6,p7,p8,p9,p10,p11,p12,p13,p14,p15,p16,p17,p18,p19,p20,p21,p22,p23,p24,p25,p26,p27,trivial⟩
           have HBy:=k8 (HBx.out.trans (hK.mono HBx.out.size))
           clear hK hC hF p0 p1 p2 p3 p4 p5 p6 p7 p8 p9 p10 p11 p12 p13 p14 p15 p16 p17 p18 p19 p20 p21 p22 p23 p24 p25 p26 p27
           subst hx
           simp only [puts,Act.put,we,wg,wi,wj,wk]
           go_wp2_with fail
           go_roundw
           case rel=>exact ⟨k+1,hlt,by go_num,HBy.out,HZ.out⟩
           case measure=>simp [intOf];omega
        ·have hkk:k=g.params.length:=by omega
         rw [ww (by rw [List.length_zip];omega)] at hP
         have hM:M=true:=by rw [← HMay.out];exact hP
         subst hM
         have HB:=k8 (HB2.out.trans (hBr.mono HB2.out.size))
         clear hkk hP hBr
         go_wp2_with fail
         go_ret
         exact ⟨rfl,HBl.out.trans (HB.out.mono HBl.out.size)⟩
    ·rw [if_pos (.inl hla)] at hMay
     subst hMay
     have tla:((args.length:Int) != g.params.length)=true:=by simp;omega
     go_wp2_with fail
     go_ret
     exact ⟨rfl,HBl.out.trans (HB1.out.mono HBl.out.size)⟩
   ·rw [List.getElem?_eq_none (by omega)] at hMay
    subst hMay
    have tn:decide (p.funcs.length≤fn)=true:=by simp;omega
    have tn2:(p.funcs.length≤fn)=True:=by simp;omega
    go_wp2_with fail
    go_ret
    exact ⟨rfl,HBl.out.trans (HB1.out.mono HBl.out.size)⟩
 ·rw [if_pos (.inl hc0)] at hMay
  subst hMay
  have tc:(C != 0)=true:=by simpa using hc0
  go_wp2_with fail
  go_ret
  exact ⟨rfl,HBl.out.trans (HB1.out.mono HBl.out.size)⟩
end
section
open Go.RowKit
theorem run_all (E:Env):∀ (N:Nat) (F:Fr),F.i<N→E.ok F→BodyAt E F F.f.body:=by
 intro N
 induction N with
 | zero=>intro F h;omega
 | succ N ih=>
  intro F hF hk
  exact body_all hk (fun F' h h2=>ih F' (by omega) h2) (wtSs F.f.body) F.f.body (wo _) (hk.fine.evs F.i F.f hk.fit.fn)
structure Out where
 value:Int
 opened:List Int
 secs:List (List Int)
 shared:List Int
def secF (l:Refs) (x:Arr×Nat):Refs:=aput l x.1.name ⟨x.2,0,x.1.len.toNat⟩
def xy (l:List Arr):Refs:=l.zipIdx.foldl secF []
def argF (row:Nat) (y:Vars×Refs) (x:z8×Int):Vars×Refs:=if x.1.kind=2 then (y.1,aput y.2 x.1.name ⟨row,x.2.toNat,x.1.len.toNat⟩) else (aput y.1 x.1.name x.2,y.2)
def argsOf (row:Nat) (g:Fun) (args:List Int):Vars×Refs:=(g.params.zip args).foldl (argF row) ([],[])
def bodyS (p:Src) (fn:Nat) (g:Fun) (args:List Int) (secs:List (List Int)) (shared:List Int):Vars×Int×St:=
 exSs aluF (callT aluF p (xy p.secrets) fn) p fn (xy p.secrets) (argsOf secs.length g args).2 g.body ((argsOf secs.length g args).1,0,⟨secs++[shared],[]⟩)
def outS (p:Src) (n:Nat) (r:Vars×Int×St):Out:=⟨r.2.1,r.2.2.opened,p.secrets.map (fun a=>r.2.2.mem.getD (refAt (xy p.secrets) a.name).row []),r.2.2.mem.getD n []⟩
def runS (p:Src) (f:Int) (args:List Int) (secs:List (List Int)) (shared:List Int):Int×Out:=
 if mayS p f args secs shared=false then (1,⟨0,[],[],[]⟩) else match p.funcs[f.toNat]? with
 | none=>(1,⟨0,[],[],[]⟩)
 | some g=>(0,outS p secs.length (bodyS p f.toNat g args secs shared))
structure RowsAt (w:World) (S0:Nat) (ls:List (List Int)) (rs:List (Nat×Nat)):Prop where
 len:rs.length=ls.length
 own:∀ (j:Nat) (x:Nat×Nat) (l:List Int),rs[j]?=some x→ls[j]?=some l→w.ownsRow S0 35 1 (.slice (some ⟨x.1,0,none⟩) l.length x.2) l.length (l.map (Value.int .u64))
 lt:∀ x∈rs,S0≤x.1∧x.1<w.heap.size
 nd:(rs.map (·.1)).Nodup
theorem RowsAt.nil (w:World) (S0:Nat):RowsAt w S0 [] []:=⟨rfl,fun j x l h=>by simp at h,fun x h=>(by cases h),by simp⟩
theorem RowsAt.kept {M:List Nat} {w w':World} {S0:Nat} {ls:List (List Int)} {rs:List (Nat×Nat)} (h:RowsAt w S0 ls rs) (k:Kept M w w') (hM:∀ x∈rs,x.1 ∉ M):RowsAt w' S0 ls rs:=by
 refine ⟨h.len,fun j x l hj hl=>?_,fun x hx=>⟨(h.lt x hx).1,Nat.lt_of_lt_of_le (h.lt x hx).2 k.size⟩,h.nd⟩
 obtain ⟨h1,h2⟩:=h.own j x l hj hl
 refine ⟨h1,?_⟩
 rcases h2 with h2|⟨g,cap,cur,e,hb,hc,r⟩
 ·exact .inl h2
 ·right
  have hx:=gg hj
  simp only [Value.slice.injEq,Option.some.injEq,Addr.mk.injEq] at e
  obtain ⟨⟨rfl,-,-⟩,-,rfl⟩:=e
  exact ⟨_,_,cur,rfl,hb,(k.block _ (h.lt x hx).2 (hM x hx)).trans hc,r⟩
theorem RowsAt.push {w:World} {S0:Nat} {ls:List (List Int)} {rs:List (Nat×Nat)} (h:RowsAt w S0 ls rs) {b c:Nat} {l:List Int} (ho:w.ownsRow S0 35 1 (.slice (some ⟨b,0,none⟩) l.length c) l.length (l.map (Value.int .u64))) (hn:∀ x∈rs,x.1≠b) (hb:S0≤b∧b<w.heap.size):RowsAt w S0 (ls++[l]) (rs++[(b,c)]):=by
 refine ⟨by simp [h.len],fun j x l' hj hl=>?_,fun x hx=>?_,?_⟩
 ·by_cases hlt:j<rs.length
  ·rw [List.getElem?_append_left hlt] at hj
   rw [List.getElem?_append_left (by rw [← h.len];exact hlt)] at hl
   exact h.own j x l' hj hl
  ·rw [List.getElem?_append_right (by omega)] at hj
   rw [List.getElem?_append_right (by rw [← h.len];omega),← h.len] at hl
   generalize j - rs.length=d at *
   cases d with
   | zero=>simp only [List.getElem?_cons_zero,Option.some.injEq] at hj hl;subst hj;subst hl;exact ho
   | succ d=>simp at hj
 ·rcases gi.1 hx with hx|hx
  ·exact h.lt x hx
  ·simp only [wy] at hx;subst hx;exact hb
 ·rw [List.map_append,List.nodup_append]
  refine ⟨h.nd,by simp,fun a ha b' hb'=>?_⟩
  simp only [List.map_cons,List.map_nil,wy] at hb'
  subst hb'
  obtain ⟨x,hx,rfl⟩:=List.mem_map.1 ha
  exact hn x hx
theorem own_some {w:World} {S0:Nat} {v:Value} {l:List Int} (h:w.ownsRow S0 35 1 v l.length (l.map (Value.int .u64))) (hl:l≠[]):∃ b c,v=.slice (some ⟨b,0,none⟩) l.length c∧S0≤b∧b<w.heap.size∧l.length≤c:=by
 rcases h.2 with ⟨_,h0⟩|⟨g,cap,cur,rfl,hb,hc,hle,_⟩
 ·exact absurd (List.eq_nil_of_length_eq_zero h0) hl
 ·exact ⟨g,cap,rfl,hb,(wl.1 hc).1,hle⟩
theorem own_cells {w:World} {S0 b c:Nat} {l:List Int} (h:w.ownsRow S0 35 1 (.slice (some ⟨b,0,none⟩) l.length c) l.length (l.map (Value.int .u64))):RowAt w b l∧l.length≤c:=by
 have hc:=h
 rcases h.2 with ⟨e,_⟩|⟨g,cap,cur,e,hb,hg,hle,_⟩
 ·cases e
 ·simp only [Value.slice.injEq,Option.some.injEq,Addr.mk.injEq] at e
  obtain ⟨⟨rfl,-,-⟩,-,rfl⟩:=e
  refine ⟨fun j x hj=>⟨?_,?_⟩,hle⟩
  ·have:=hc.cells (g:=b) rfl j (.int .u64 x) (by rw [List.getElem?_map,hj];rfl)
   have ha:(⟨b,0,none⟩:Addr).add j=⟨b,j,none⟩:=by unfold Addr.add;split<;>simp_all
   rwa [ha] at this
  ·unfold World.frozen?
   rw [hg]
   simp
theorem wsl_own {w:World} {S0:Nat} {v:Value} {l:List Int} (h:w.ownsRow S0 35 1 v l.length (l.map (Value.int .u64))) (hl:l.length≤140737488351232):WSl w v l:=by
 have hh:=h
 rcases h.2 with ⟨rfl,h0⟩|⟨g,cap,cur,rfl,hb,hc,hle,_⟩
 ·exact ⟨none,0,by rw [h0],by omega,hl,fun _=>rfl,fun hn=>absurd (List.eq_nil_of_length_eq_zero h0) hn⟩
 ·refine ⟨_,cap,rfl,hle,hl,fun e=>(by cases e),fun _=>⟨g,0,rfl,fun j x hj=>?_⟩⟩
  rw [Nat.zero_add]
  exact ((own_cells hh).1 j x hj).1
def lvF (l:List (ByteArray×Value)) (x:Arr×(Nat×Nat)):List (ByteArray×Value):=aput l x.1.name (.slice (some ⟨x.2.1,0,none⟩) x.1.len.toNat x.2.2)
def lvS (xs:List Arr) (rs:List (Nat×Nat)):List (ByteArray×Value):=(xs.zip rs).foldl lvF []
theorem lvS_snoc (xs:List Arr) (rs:List (Nat×Nat)) (k:Nat) (h:k<xs.length) (hr:rs.length=k) (b c:Nat):lvS (xs.take (k+1)) (rs++[(b,c)])=aput (lvS (xs.take k) rs) xs[k].name (.slice (some ⟨b,0,none⟩) xs[k].len.toNat c):=by
 unfold lvS
 rw [List.take_succ_eq_append_getElem h,List.zip_append (by rw [List.length_take];omega),List.foldl_append]
 rfl
theorem lv_refs {bk:List Nat}:∀ (xs:List Arr) (rs:List (Nat×Nat)) (k:Nat) (l:List (ByteArray×Value)) (m:Refs),xs.length=rs.length →
  (∀ (j:Nat) (a:Arr) (x:Nat×Nat),xs[j]?=some a→rs[j]?=some x→absV bk (.slice (some ⟨x.1,0,none⟩) a.len.toNat x.2)=some ⟨k+j,0,a.len.toNat⟩) →
  l.map (fun x=>(x.1,absV bk x.2))=m.map (fun x=>(x.1,some x.2)) →
  ((xs.zip rs).foldl lvF l).map (fun x=>(x.1,absV bk x.2))=((xs.zipIdx k).foldl secF m).map (fun x=>(x.1,some x.2))
 | [],_,_,l,m,_,_,h=>by simpa using h
 | _::_,[],_,_,_,h,_,_=>by simp at h
 | a::xs,x::rs,k,l,m,hl,hv,h=>by
  simp only [List.zip_cons_cons,List.foldl_cons,List.zipIdx_cons]
  refine lv_refs xs rs (k+1) _ _ (by simpa using hl) (fun j a' x' ha hx=>?_) ?_
  ·have:=hv (j+1) a' x' (by simpa using ha) (by simpa using hx)
   rwa [show k+(j+1)=k+1+j by omega] at this
  ·exact RefsAt.put h a.name (hv 0 a x rfl rfl)
theorem secF_some (s:ByteArray):∀ (xs:List Arr) (k:Nat) (m:Refs),((aget m s).isSome=true∨∃ a∈xs,(s == a.name)=true)→(aget ((xs.zipIdx k).foldl secF m) s).isSome=true
 | [],_,_,h=>by
  rcases h with h|⟨a,h,_⟩
  ·simpa using h
  ·cases h
 | a::xs,k,m,h=>by
  simp only [List.zipIdx_cons,List.foldl_cons]
  refine secF_some s xs (k+1) _ ?_
  unfold secF
  rw [k7]
  by_cases hs:(s == a.name)=true
  ·left;rw [if_pos hs];rfl
  ·rw [if_neg hs]
   rcases h with h|⟨a',h,h2⟩
   ·exact .inl h
   ·rcases gh.1 h with rfl|h
    ·exact absurd h2 hs
    ·exact .inr ⟨a',h,h2⟩
theorem arr_named {s:ByteArray}:∀ (xs:List Arr) (m:List (ByteArray×Bool)),zf (xs.foldl (fun l a=>aput l a.name true) m) s=true→zf m s=true∨∃ a∈xs,(s == a.name)=true
 | [],m,h=>.inl h
 | a::xs,m,h=>by
  rcases arr_named xs _ h with h1|⟨a',h1,h2⟩
  ·unfold zf at h1
   rw [k7] at h1
   by_cases hs:(s == a.name)=true
   ·exact .inr ⟨a,by simp,hs⟩
   ·rw [if_neg hs] at h1;exact .inl h1
  ·exact .inr ⟨a',by simp [h1],h2⟩
theorem secs_all {p:Src} {s:ByteArray} (h:zf (jt p) s=true):(aget (xy p.secrets) s).isSome=true:=by
 refine secF_some s p.secrets 0 [] (.inr ?_)
 rcases arr_named p.secrets [] h with h1|h1
 ·cases h1
 ·exact h1
theorem aput_mem {V:Type} {l:List (ByteArray×V)} {s:ByteArray} {v:V} {x:ByteArray×V} (h:x∈aput l s v):x∈l∨x.2=v:=by
 induction l with
 | nil=>simp only [aput,wy] at h;subst h;exact .inr rfl
 | cons z l ih=>
  obtain ⟨za,zu⟩:=z
  rw [aput] at h
  split at h
  ·rcases gh.1 h with rfl|h
   ·exact .inr rfl
   ·exact .inl (by simp [h])
  ·rcases gh.1 h with rfl|h
   ·exact .inl (by simp)
   ·rcases ih h with h|h
    ·exact .inl (by simp [h])
    ·exact .inr h
theorem secF_mem {x:ByteArray×Ref}:∀ (xs:List Arr) (k:Nat) (m:Refs),x∈(xs.zipIdx k).foldl secF m→x∈m∨∃ (j:Nat) (a:Arr),xs[j]?=some a∧x.2=⟨k+j,0,a.len.toNat⟩
 | [],_,_,h=>.inl (by simpa using h)
 | a::xs,k,m,h=>by
  simp only [List.zipIdx_cons,List.foldl_cons] at h
  rcases secF_mem xs (k+1) _ h with h|⟨j,a',h1,h2⟩
  ·rcases aput_mem h with h|h
   ·exact .inl h
   ·exact .inr ⟨0,a,rfl,by rw [h];rfl⟩
  ·exact .inr ⟨j+1,a',by simpa using h1,by rw [h2,show k+1+j=k+(j+1) by omega]⟩
theorem sameLens_at {xs:List Arr} {ls:List (List Int)} (h:vu xs ls=true):xs.length=ls.length∧∀ (j:Nat) (a:Arr) (l:List Int),xs[j]?=some a→ls[j]?=some l→a.len=l.length:=by
 unfold vu at h
 rw [Bool.and_eq_true] at h
 refine ⟨by simpa using h.1,fun j a l h1 h2=>?_⟩
 have h3:=h.2
 rw [List.all_eq_true] at h3
 have:=h3 (a,l) (by
  refine gg (i:=j) ?_
  rw [List.getElem?_zip_eq_some]
  exact ⟨h1,h2⟩)
 simpa using this
structure Begun (w0:World) (p:Src) (secs:List (List Int)) (shared:List Int) (rs:List (Nat×Nat)) (bs wb sb S0:Nat) (sv:Value) (w:World):Prop where
 rows:RowsAt w S0 secs rs
 tab:j5 Value.string w sb (lvS p.secrets rs)
 c0:∃ a0 c0 a1 c1,w.cell? ⟨wb,0,none⟩=some (.slice a0 p.secrets.length c0)∧w.cell? ⟨wb,1,none⟩=some (.slice a1 p.funcs.length c1)∧kn w0 p (.agg #[.slice a0 p.secrets.length c0,.slice a1 p.funcs.length c1])
 c2:w.cell? ⟨wb,2,none⟩=some (.map (some sb))
 c3:w.cell? ⟨wb,3,none⟩=some sv
 c4:w.cell? ⟨wb,4,none⟩=some (.slice none 0 0)∧w.frozen? ⟨wb,4,none⟩=false
 sh:shared≠[]→∃ c,sv=.slice (some ⟨bs,0,none⟩) shared.length c∧w.ownsRow w0.heap.size 35 1 sv shared.length (shared.map (Value.int .u64))
 below:w0.heap.size≤S0∧w0.heap.size≤bs∧bs<S0∧w0.heap.size≤wb∧wb<S0∧sb<S0∧S0≤w.heap.size
 ne:wb≠bs∧sb≠bs∧sb≠wb
theorem begun_bk {w0:World} {p:Src} {secs:List (List Int)} {shared:List Int} {rs:List (Nat×Nat)} {bs wb sb S0:Nat} {sv:Value} {w:World} (h:Begun w0 p secs shared rs bs wb sb S0 sv w):(rs.map (·.1)++[bs]).Nodup∧(∀ b∈rs.map (·.1),S0≤b∧b<w.heap.size):=by
 have hm:∀ b∈rs.map (·.1),S0≤b∧b<w.heap.size:=fun b hb=>by
  obtain ⟨x,hx,rfl⟩:=List.mem_map.1 hb
  exact h.rows.lt x hx
 refine ⟨?_,hm⟩
 rw [List.nodup_append]
 refine ⟨h.rows.nd,by simp,fun a ha b hb=>?_⟩
 simp only [wy] at hb
 subst hb
 have:=(hm a ha).1
 have:=h.below.2.2.1
 omega
theorem begun_fix {w0:World} {p:Src} {secs:List (List Int)} {shared:List Int} {rs:List (Nat×Nat)} {bs wb sb S0:Nat} {sv:Value} {w:World} (h:Begun w0 p secs shared rs bs wb sb S0 sv w) (hF:kg p) (hs:vu p.secrets secs=true) (hsh:shared.length≤512) :
  RunFix w0 p (rs.map (·.1)++[bs]) wb w.heap.size sb (xy p.secrets) ((secs++[shared]).map (·.length)):=by
 obtain ⟨hnd,hm⟩:=begun_bk h
 obtain ⟨h1,h2,h3,h4,h5,h6,h7⟩:=h.below
 obtain ⟨n1,n2,n3⟩:=h.ne
 obtain ⟨hl,ha⟩:=sameLens_at hs
 refine ⟨hnd,fun b hb=>?_,⟨h4,by omega,fun hb=>?_⟩,⟨fun hb=>?_,n3,by omega⟩,?_,fun n hn=>?_,fun x hx=>?_,fun s hs=>secs_all hs⟩
 ·rcases gi.1 hb with hb|hb
  ·have:=hm b hb;omega
  ·simp only [wy] at hb;subst hb;omega
 ·rcases gi.1 hb with hb|hb
  ·have:=hm _ hb;omega
  ·simp only [wy] at hb;exact n1 hb
 ·rcases gi.1 hb with hb|hb
  ·have:=hm _ hb;omega
  ·simp only [wy] at hb;exact n2 hb
 ·simp [h.rows.len]
 ·obtain ⟨l,hl2,rfl⟩:=List.mem_map.1 hn
  rcases gi.1 hl2 with hl2|hl2
  ·obtain ⟨j,hj,rfl⟩:=List.getElem_of_mem hl2
   have hj2:j<p.secrets.length:=by omega
   have:=ha j p.secrets[j] secs[j] (by simp [hj2]) (by simp [hj])
   have:=(hF.arrs _ (List.getElem_mem hj2)).2
   omega
  ·simp only [wy] at hl2;subst hl2;omega
 ·rcases secF_mem p.secrets 0 [] hx with hx|⟨j,a,hj,e⟩
  ·cases hx
  ·have hj2:j<p.secrets.length:=(List.getElem?_eq_some_iff.1 hj).1
   have hj3:j<secs.length:=by omega
   have hal:=ha j a secs[j] hj (by simp [hj3])
   have:=hF.arrs a (gg hj)
   rw [e]
   refine ⟨secs[j].length,?_,?_,?_⟩
   ·simp only [Nat.zero_add,List.getElem?_map,List.getElem?_append_left hj3,List.getElem?_eq_getElem hj3,Option.map_some]
   ·simp only [Nat.zero_add];omega
   ·simp only;omega
theorem begun_run {w0:World} {p:Src} {secs:List (List Int)} {shared:List Int} {rs:List (Nat×Nat)} {bs wb sb S0:Nat} {sv:Value} {w:World} (h:Begun w0 p secs shared rs bs wb sb S0 sv w) (hs:vu p.secrets secs=true) (hu:∀ l∈secs,∀ x∈l,U64 x) (hv:∀ x∈shared,U64 x) :
  vh w0 p (rs.map (·.1)++[bs]) wb w.heap.size sb sv (xy p.secrets) ((secs++[shared]).map (·.length)) ⟨secs++[shared],[]⟩ w:=by
 obtain ⟨hnd,hm⟩:=begun_bk h
 obtain ⟨hl,ha⟩:=sameLens_at hs
 have hbk:∀ (j:Nat) (x:Nat×Nat),rs[j]?=some x→(rs.map (·.1)++[bs])[j]?=some x.1:=fun j x hj=>by
  rw [List.getElem?_append_left (by rw [List.length_map];exact (List.getElem?_eq_some_iff.1 hj).1),List.getElem?_map,hj];rfl
 refine ⟨h.c0,h.c2,h.c3,⟨_,h.c4.1,h.c4.2,by simp,.inl ⟨rfl,rfl⟩⟩,⟨_,h.tab,?_⟩,fun r l b hr hb=>?_,fun l hl2=>?_,rfl,wo _⟩
 ·refine lv_refs p.secrets rs 0 [] [] (by rw [h.rows.len];exact hl) (fun j a x h1 h2=>?_) rfl
  rw [Nat.zero_add]
  have hj:j<secs.length:=by rw [← hl];exact (List.getElem?_eq_some_iff.1 h1).1
  have hal:=ha j a secs[j] h1 (by simp [hj])
  have hle:=(own_cells (h.rows.own j x secs[j] h2 (by simp [hj]))).2
  exact absV_mk (r:=⟨j,0,a.len.toNat⟩) hnd (hbk j x h2) (by simp only;omega)
 ·simp only at hr
  by_cases hlt:r<secs.length
  ·rw [List.getElem?_append_left hlt] at hr
   have hr2:r<rs.length:=by rw [h.rows.len];exact hlt
   have e:=hbk r rs[r] (by simp [hr2])
   rw [hb] at e
   simp only [Option.some.injEq] at e
   subst e
   exact (own_cells (h.rows.own r rs[r] l (by simp [hr2]) hr)).1
  ·rw [List.getElem?_append_right (by omega)] at hr
   rw [List.getElem?_append_right (by rw [List.length_map,h.rows.len];omega),List.length_map,h.rows.len] at hb
   generalize r - secs.length=d at *
   cases d with
   | succ d=>simp at hr
   | zero=>
    simp only [List.getElem?_cons_zero,Option.some.injEq] at hr hb
    subst hr
    subst hb
    by_cases hn:shared=[]
    ·subst hn;intro j x hj;simp at hj
    ·obtain ⟨c,rfl,ho⟩:=h.sh hn
     exact (own_cells ho).1
 ·rcases gi.1 hl2 with hl2|hl2
  ·exact hu l hl2
  ·simp only [wy] at hl2;subst hl2;exact hv
end
section
open Go.RowKit
structure But (Z:Obj) (B:Nat) (w w':World):Prop where
 os:w'.os=w.os
 tape:w'.tape=w.tape
 output:w'.output=w.output
 size:w.heap.size≤w'.heap.size
 block:∀ i,i<w.heap.size→(i<B∨w.heap[i]?≠some Z)→w'.heap[i]?=w.heap[i]?
theorem But.refl (Z:Obj) (B:Nat) (w:World):But Z B w w:=⟨rfl,rfl,rfl,wo _,fun _ _ _=>rfl⟩
theorem But.behind {Z:Obj} {B:Nat} {x y w:World} (hb:Below x.heap.size x y) (h:But Z B y w):But Z B x w:=
 ⟨h.os.trans hb.os,h.tape.trans hb.tape,h.output.trans hb.output,wx hb.size h.size,fun i hi hz=>by
  have e:=hb.block i hi
  rw [← e]
  exact h.block i (Nat.lt_of_lt_of_le hi hb.size) (by rw [e];exact hz)⟩
theorem But.base {Z:Obj} {B:Nat} {x y w:World} (h:But Z B y w) (hb:Below B x y) (hB:B≤x.heap.size):Below B x w:=
 ⟨h.os.trans hb.os,h.tape.trans hb.tape,h.output.trans hb.output,wx hb.size h.size,fun i hi=>(h.block i (by have:=hb.size;omega) (.inl hi)).trans (hb.block i hi)⟩
theorem But.keep {Z o:Obj} {B b:Nat} {y w:World} (h:But Z B y w) (hb:y.heap[b]?=some o) (ho:o≠Z):w.heap[b]?=some o:=
 (h.block b (wl.1 hb).1 (.inr (by rw [hb];intro e;exact ho (Option.some.inj e)))).trans hb
theorem But.new {Z o:Obj} {B:Nat} {y w:World} (h:But Z B (y.alloc o) w) (ho:o≠Z):w.heap[y.heap.size]?=some o:=h.keep (Go.heap_alloc_new y o) ho
theorem But.of_alloc {Z o:Obj} {B:Nat} {y w:World} (h:But Z B (y.alloc o) w):But Z B y w:=h.behind ((wu _ _).alloc (wo _) _)
def mpQ (Z:Obj) (B:Nat) (Q:World→Value→Prop):MP:=⟨fun v w=>∀ w',But Z B w w'→Q w' v,fun v x y h hb w' hw=>h w' (hw.behind hb)⟩
def AllIs {α:Type} (Is:World→α→Value→Prop) (w:World):List (α×Array Value)→Prop
 | []=>True
 | x::l=>Is w x.1 (.agg x.2)∧AllIs Is w l
theorem row_of_cells {α:Type} {sz:Nat} {w:World} {b:Nat} {At:Nat→Nat→α→Prop}:∀ (l:List (α×Array Value)) (o:Nat),(∀ x∈l,x.2.size=sz∧∀ o,(∀ (k:Nat) v,x.2[k]?=some v→w.cell? ⟨b,o+k,none⟩=some v)→At b o x.1) →
  (∀ (k:Nat) v,((l.map (·.2.toList)).flatten)[k]?=some v→w.cell? ⟨b,o+k,none⟩=some v)→Row sz At b o (l.map (·.1))
 | [],o,_,_=>fun j x hj=>by simp at hj
 | y::l,o,h,hc=>fun j x hj=>by
  have hy:=h y (by simp)
  cases j with
  | zero=>
   simp only [List.map_cons,List.getElem?_cons_zero,Option.some.injEq] at hj
   subst hj
   rw [Nat.zero_mul,Nat.add_zero]
   refine hy.2 o (fun k v hk=>hc k v ?_)
   have hlt:=(wl.1 hk).1
   rw [List.map_cons,List.flatten_cons,List.getElem?_append_left (by simpa using hlt)]
   simpa using hk
  | succ j=>
   have:=row_of_cells l (o+sz) (fun x hx=>h x (by simp [hx])) (fun k v hk=>by
    have:=hc (sz+k) v (by
     rw [List.map_cons,List.flatten_cons,List.getElem?_append_right (by simp [hy.1]),Array.length_toList,hy.1,Nat.add_sub_cancel_left]
     exact hk)
    rwa [← Nat.add_assoc] at this) j x (by simpa using hj)
   rwa [show o+sz+j * sz=o+(j+1) * sz by rw [Nat.add_mul];omega] at this
theorem allIs_mem {α:Type} {Is:World→α→Value→Prop} {w:World}:∀ {l:List (α×Array Value)},AllIs Is w l→∀ x∈l,Is w x.1 (.agg x.2)
 | [],_,_,hx=>by cases hx
 | y::l,h,x,hx=>by
  rcases gh.1 hx with rfl|hx
  ·exact h.1
  ·exact allIs_mem h.2 x hx
theorem sl_row {α:Type} {sz:Nat} {Is:World→α→Value→Prop} {At:World→Nat→Nat→α→Prop} (hAt:∀ w x cs b o,Is w x (.agg cs)→cs.size=sz∧((∀ (k:Nat) v,cs[k]?=some v→w.cell? ⟨b,o+k,none⟩=some v)→At w b o x))
  {w:World} {b:Nat} {cs:Array Value} {t:TypeId} {fr:Nat×Nat} (hb:w.heap[b]?=some (.cells cs t fr)) (l:List (α×Array Value)) (hl:AllIs Is w l) (hcs:cs.toList=(l.map (·.2.toList)).flatten) (hn:l.length≤140737488351232) :
  Sl sz (At w) (.slice (some ⟨b,0,none⟩) l.length l.length) (l.map (·.1)):=by
 refine ⟨_,_,by rw [List.length_map],by rw [List.length_map];exact wo _,by rw [List.length_map];exact hn,fun _=>⟨b,0,rfl,?_⟩⟩
 refine row_of_cells (w:=w) l 0 (fun x hx=>?_) (fun k v hk=>?_)
 ·have:=allIs_mem hl x hx
  exact ⟨(hAt w x.1 x.2 b 0 this).1,fun o hc=>(hAt w x.1 x.2 b o this).2 hc⟩
 ·rw [Nat.zero_add,cell_of_row w b k cs t fr hb,← Array.getElem?_toList,hcs]
  exact hk
theorem exprAt_of (w:World) (x:Expr) (cs:Array Value) (b o:Nat) (h:zl w x (.agg cs)):cs.size=4∧((∀ (k:Nat) v,cs[k]?=some v→w.cell? ⟨b,o+k,none⟩=some v)→zo w b o x):=by
 obtain ⟨a,c,e,hk,hn,hs,hr⟩:=h
 obtain rfl:=Value.agg.inj e
 exact ⟨rfl,fun hc=>zo.mk (hc 0 _ rfl) (hc 1 _ rfl) (hc 2 _ rfl) (hc 3 _ rfl) hk hn hs hr⟩
theorem stmtAt_of (w:World) (x:Stmt) (cs:Array Value) (b o:Nat) (h:yn w x (.agg cs)):cs.size=6∧((∀ (k:Nat) v,cs[k]?=some v→w.cell? ⟨b,o+k,none⟩=some v)→j9 w b o x):=by
 obtain ⟨a0,c0,a1,c1,a2,c2,e,hk,hn,hs,r0,r1,r2⟩:=h
 obtain rfl:=Value.agg.inj e
 exact ⟨rfl,fun hc=>j9.mk (hc 0 _ rfl) (hc 1 _ rfl) (hc 2 _ rfl) (hc 3 _ rfl) (hc 4 _ rfl) (hc 5 _ rfl) hk hn hs r0 r1 r2⟩
theorem paramAt_of (w:World) (x:z8) (cs:Array Value) (b o:Nat) (h:ParamIs w x (.agg cs)):cs.size=3∧((∀ (k:Nat) v,cs[k]?=some v→w.cell? ⟨b,o+k,none⟩=some v)→yr w b o x):=by
 obtain ⟨e,hs,hk,hl⟩:=h
 obtain rfl:=Value.agg.inj e
 exact ⟨rfl,fun hc=>⟨⟨hc 0 _ rfl,hs⟩,hc 1 _ rfl,hc 2 _ rfl,hk,hl⟩⟩
theorem arrAt_of (w:World) (x:Arr) (cs:Array Value) (b o:Nat) (h:ArrIs w x (.agg cs)):cs.size=2∧((∀ (k:Nat) v,cs[k]?=some v→w.cell? ⟨b,o+k,none⟩=some v)→ArrAt w b o x):=by
 obtain ⟨e,hs,hl⟩:=h
 obtain rfl:=Value.agg.inj e
 exact ⟨rfl,fun hc=>⟨⟨hc 0 _ rfl,hs⟩,hc 1 _ rfl,hl⟩⟩
theorem funAt_of (w:World) (x:Fun) (cs:Array Value) (b o:Nat) (h:FunIs w x (.agg cs)):cs.size=4∧((∀ (k:Nat) v,cs[k]?=some v→w.cell? ⟨b,o+k,none⟩=some v)→FunAt w b o x):=by
 obtain ⟨a0,c0,a1,c1,e,hs,r0,r1⟩:=h
 obtain rfl:=Value.agg.inj e
 exact ⟨rfl,fun hc=>⟨⟨hc 0 _ rfl,hs⟩,hc 1 _ rfl,⟨_,hc 2 _ rfl,r0⟩,⟨_,hc 3 _ rfl,r1⟩⟩⟩
theorem yb {α:Type} {sz:Nat} {R:Nat→Nat→α→Prop} {v:Value} {l:List α} (h:Sl sz R v l):∃ a c,v=.slice a l.length c:=by
 obtain ⟨a,c,e,_⟩:=h
 exact ⟨a,c,e⟩
abbrev XsIs (w:World) (l:List Expr) (v:Value):Prop:=Sl 4 (zo w) v l
abbrev SsIs (w:World) (l:List Stmt) (v:Value):Prop:=Sl 6 (j9 w) v l
abbrev PsIs (w:World) (l:List z8) (v:Value):Prop:=Sl 3 (yr w) v l
abbrev AsIs (w:World) (l:List Arr) (v:Value):Prop:=Sl 2 (ArrAt w) v l
abbrev FsIs (w:World) (l:List Fun) (v:Value):Prop:=Sl 4 (FunAt w) v l
theorem ss_below {w w':World} {l:List Stmt} {v:Value} (h:SsIs w l v) (hb:Below w.heap.size w w'):SsIs w' l v:=h.imp (fun b o x _ hx=>j9.below hb x b o hx)
theorem expr_mk {w:World} (k n:Int) (s:ByteArray) {l:List Expr} {a:Option Addr} {c:Nat} (h:XsIs w l (.slice a l.length c)) (hk:I64 k) (hn:U64 n) (hs:s.size≤140737488351232):zl w ⟨k,n,s,l⟩ (.agg #[.int .i64 k,.int .u64 n,.string s,.slice a l.length c]):=⟨a,c,rfl,hk,hn,hs,h⟩
theorem stmt_mk {w:World} (k n:Int) (s:ByteArray) {l:List Expr} {t e:List Stmt} {a0 a1 a2:Option Addr} {c0 c1 c2:Nat} (h0:XsIs w l (.slice a0 l.length c0)) (h1:SsIs w t (.slice a1 t.length c1)) (h2:SsIs w e (.slice a2 e.length c2)) (hk:I64 k) (hn:I64 n) (hs:s.size≤140737488351232) :
  yn w ⟨k,s,n,l,t,e⟩ (.agg #[.int .i64 k,.string s,.int .i64 n,.slice a0 l.length c0,.slice a1 t.length c1,.slice a2 e.length c2]):=⟨a0,c0,a1,c1,a2,c2,rfl,hk,hn,hs,h0,h1,h2⟩
theorem fun_mk {w:World} (s:ByteArray) (o:Bool) {ps:List z8} {b:List Stmt} {a0 a1:Option Addr} {c0 c1:Nat} (h0:PsIs w ps (.slice a0 ps.length c0)) (h1:SsIs w b (.slice a1 b.length c1)) (hs:s.size≤140737488351232) :
  FunIs w ⟨s,o,ps,b⟩ (.agg #[.string s,.bool o,.slice a0 ps.length c0,.slice a1 b.length c1]):=⟨a0,c0,a1,c1,rfl,hs,h0,h1⟩
theorem src_mk {w:World} {l:List Arr} {fs:List Fun} {a0 a1:Option Addr} {c0 c1:Nat} (h0:AsIs w l (.slice a0 l.length c0)) (h1:FsIs w fs (.slice a1 fs.length c1)):kn w ⟨l,fs⟩ (.agg #[.slice a0 l.length c0,.slice a1 fs.length c1]):=⟨a0,c0,a1,c1,rfl,h0,h1⟩
theorem wsl_row {w:World} {b:Nat} {cs:Array Value} {t:TypeId} {fr:Nat×Nat} (hb:w.heap[b]?=some (.cells cs t fr)) (l:List Int) (hcs:cs.toList=l.map (Value.int .u64)) (hn:l.length≤140737488351232):WSl w (.slice (some ⟨b,0,none⟩) l.length l.length) l:=by
 refine ⟨_,_,rfl,wo _,hn,fun h=>(by cases h),fun _=>⟨b,0,rfl,fun j x hj=>?_⟩⟩
 rw [Nat.zero_add,cell_of_row w b j cs t fr hb,← Array.getElem?_toList,hcs,List.getElem?_map,hj]
 rfl
theorem wsl_none (w:World):WSl w (.slice none 0 0) []:=⟨none,0,rfl,by simp,by simp,fun _=>rfl,fun h=>absurd rfl h⟩
def AllW (w:World):List (List Int×Value)→Prop
 | []=>True
 | x::l=>WSl w x.2 x.1∧AllW w l
theorem allW_at {w:World}:∀ {l:List (List Int×Value)},AllW w l→∀ (j:Nat) x,l[j]?=some x→WSl w x.2 x.1
 | [],_,j,x,hj=>by simp at hj
 | y::l,h,0,x,hj=>by simp at hj;subst hj;exact h.1
 | y::l,h,j+1,x,hj=>allW_at h.2 j x (by simpa using hj)
theorem ws_row {w:World} {b:Nat} {cs:Array Value} {t:TypeId} {fr:Nat×Nat} (hb:w.heap[b]?=some (.cells cs t fr)) (l:List (List Int×Value)) (hl:AllW w l) (hcs:cs.toList=l.map (·.2)) (hn:l.length≤140737488351232):Sl 1 (WAt w) (.slice (some ⟨b,0,none⟩) l.length l.length) (l.map (·.1)):=by
 refine ⟨_,_,by rw [List.length_map],by rw [List.length_map];exact wo _,by rw [List.length_map];exact hn,fun _=>⟨b,0,rfl,fun j x hj=>?_⟩⟩
 rw [List.getElem?_map] at hj
 cases hx:l[j]? with
 | none=>rw [hx] at hj;cases hj
 | some y=>
  rw [hx] at hj
  simp only [Option.map_some,Option.some.injEq] at hj
  subst hj
  refine ⟨y.2,?_,allW_at hl j y hx⟩
  rw [Nat.zero_add,Nat.mul_one,cell_of_row w b j cs t fr hb,← Array.getElem?_toList,hcs,List.getElem?_map,hx]
  rfl
theorem world_mk {w:World} {secs:List (List Int)} {shared:List Int} {a0 a1:Option Addr} {c0 c1:Nat} (h0:Sl 1 (WAt w) (.slice a0 secs.length c0) secs) (h1:WSl w (.slice a1 shared.length c1) shared):WorldIs w secs shared (.agg #[.slice a0 secs.length c0,.slice a1 shared.length c1]):=⟨a0,c0,a1,c1,rfl,h0,h1⟩
def mpNew (B:Nat) (Z:Obj):MP:=⟨fun v w=>∃ b,v=.pointer (some ⟨b,0,none⟩)∧B≤b∧w.heap[b]?=some Z,fun v x y ⟨b,h1,h2,h3⟩ hb=>⟨b,h1,h2,ji hb h3⟩⟩
theorem But.setRow {w:World} {B b:Nat} {cs0 cs:Array Value} {t:TypeId} {fr:Nat×Nat} (hb:w.heap[b]?=some (.cells cs0 t fr)) (hB:B≤b):But (.cells cs0 t fr) B w (w.setRow b cs):=by
 have hk:Below b w (w.setRow b cs):=below_setRow (wu _ _) (wo _) cs
 refine ⟨hk.os,hk.tape,hk.output,hk.size,fun i hi hz=>?_⟩
 by_cases e:i=b
 ·subst e
  rcases hz with hz|hz
  ·omega
  ·exact absurd hb hz
 ·exact Go.setRow_other w b i cs e
theorem run_load_box {P:Program} (w:World) (g:Nat) (t ty:TypeId) (cs:Array Value) (fr:Nat×Nat) (d:TypeDesc) (hg:w.heap[g]?=some (.cells cs t fr))
  (hu:P.underlying ty=some d) (hd:(match d with|.struct _|.array _ _=>true|_=>false)=true) (hi:(P.info? ty).map (·.size)=some cs.size) :
  (Instr.loadAt ty (.pointer (some ⟨g,0,none⟩))).run P w=.ok (.agg cs) w:=by
 simp only [Instr.loadAt,Instr.sureAddr,Sem.run_bind,Sem.run_pure,Result.andThen_ok,run_loadVar_row w g t ty cs fr d hg hu hd hi]
end
section
open Go.RowKit
theorem longs_any (u v:Value) (l m:List Int) (w:World) (hu:WSl w u l) (hv:WSl w v m):Calls Tryz.prog 19 #[u,v] w (Ret w (.bool (decide (l=m)))):=by
 obtain ⟨a0,c0,rfl,hc0,hm0,hn0,hr0⟩:=hu
 obtain ⟨a1,c1,rfl,hc1,hm1,hn1,hr1⟩:=hv
 have hr0:=k8 hr0
 have hr1:=k8 hr1
 clear hn0 hn1
 by_cases hln:l.length=m.length
 ·have hne:((l.length:Int) != m.length)=false:=by simp;omega
  have HLn:=k8 hln
  clear hln
  go_enter Tryz.func19,Tryz.ntmps19
  go_wp2_with fail
  go_loopw [5] (fun iv wr=>∃ k:Nat,k≤l.length∧iv=.int .i64 k∧Below w.heap.size w wr∧l.take k=m.take k) (fun iv _=>l.length - (intOf iv).toNat)
  case atStart=>exact ⟨0,gj _,rfl,wu _ _,rfl⟩
  case round=>
   obtain ⟨k,hk,rfl,hBr,hP⟩:=hrel
   by_cases hlt:k<l.length
   ·have hltx:k<m.length:=by have:=HLn.out;omega
    obtain ⟨b0,o0,rfl,hro0⟩:=hr0.out (by intro h;rw [h] at hlt;simp at hlt)
    obtain ⟨b1,o1,rfl,hro1⟩:=hr1.out (by intro h;rw [h] at hltx;simp at hltx)
    have hx:=jb hBr (hro0 k l[k] (by simp [hlt]))
    have hy:=jb hBr (hro1 k m[k] (by simp [hltx]))
    have hIk:k<l.length∧k<m.length:=⟨hlt,hltx⟩
    have hstep:l.take (k+1)=m.take (k+1) ↔ l[k]=m[k]:=by
     rw [List.take_succ_eq_append_getElem hlt,List.take_succ_eq_append_getElem hltx,hP]
     exact ⟨fun h=>by have:=List.append_cancel_left h;simpa using this,fun h=>by rw [h]⟩
    have hdiff:l[k]≠m[k]→¬ l=m:=by
     intro h e
     subst e
     exact h rfl
    have HX:=k8 hx
    have HY:=k8 hy
    have HIk:=k8 hIk
    have HSt:=k8 hstep
    have HDf:=k8 hdiff
    have HB:=k8 hBr
    clear hx hy hro0 hro1 hIk hstep hdiff hBr hP
    generalize l[k]=xv at *
    generalize m[k]=yv at *
    go_wp2_with fail
    generalize hXX:wr.heap.size=X at *
    clear hXX
    refine je zi [.is (.slice (some ⟨b0,o0,none⟩) l.length c0),.is (.int .i64 k),.is (.pointer (some ⟨b0,o0+k,none⟩)),.is (.int .u64 xv),.is (.slice (some ⟨b1,o1,none⟩) m.length c1),.is (.int .i64 k),.is (.pointer (some ⟨b1,o1+k,none⟩)),.is (.int .u64 yv)] (by kernel_rfl) 8 (by decide) (by kernel_rfl) _ rfl ?_ ?_
    ·refine ⟨?_,?_,?_,?_,?_,?_,?_,?_,trivial⟩
     ·refine jc rfl rfl rfl fun x1 y hB hF hD=>?_
      have e0:slot x1 0=.slice (some ⟨b0,o0,none⟩) l.length c0:=hF.at 0 rfl
      clear hB hF
      simp only [execOp,ja,e0]
      first|rfl|(go_simp;try rfl)
     ·refine jc rfl rfl rfl fun x1 y hB hF hD=>?_
      have e5:slot x1 5=.int .i64 k:=hF.at 5 rfl
      clear hB hF
      simp only [execOp,ja,e5]
      first|rfl|(go_simp;try rfl)
     ·refine jc rfl rfl rfl fun x1 y hB hF hD=>?_
      obtain ⟨d0,d1,-⟩:=hD
      have e17:slot x1 17=.slice (some ⟨b0,o0,none⟩) l.length c0:=d0 rfl
      have e18:slot x1 18=.int .i64 k:=d1 rfl
      have hik:k<l.length:=HIk.out.1
      clear hB hF
      simp only [execOp,ja,e17,e18]
      first|rfl|(go_simp;try rfl)
     ·refine jc rfl rfl rfl fun x1 y hB hF hD=>?_
      obtain ⟨d0,-⟩:=hD
      have e19:slot x1 19=.pointer (some ⟨b0,o0+k,none⟩):=d0 rfl
      have hc:y.cell? ⟨b0,o0+k,none⟩=some (.int .u64 xv):=jb hB HX.out
      clear hB hF
      simp only [execOp,ja,e19]
      first|rfl|(go_simp;try rfl)
     ·refine jc rfl rfl rfl fun x1 y hB hF hD=>?_
      have e1:slot x1 1=.slice (some ⟨b1,o1,none⟩) m.length c1:=hF.at 1 rfl
      clear hB hF
      simp only [execOp,ja,e1]
      first|rfl|(go_simp;try rfl)
     ·refine jc rfl rfl rfl fun x1 y hB hF hD=>?_
      have e5:slot x1 5=.int .i64 k:=hF.at 5 rfl
      clear hB hF
      simp only [execOp,ja,e5]
      first|rfl|(go_simp;try rfl)
     ·refine jc rfl rfl rfl fun x1 y hB hF hD=>?_
      obtain ⟨d0,d1,-⟩:=hD
      have e21:slot x1 21=.slice (some ⟨b1,o1,none⟩) m.length c1:=d0 rfl
      have e22:slot x1 22=.int .i64 k:=d1 rfl
      have hik:k<m.length:=HIk.out.2
      clear hB hF
      simp only [execOp,ja,e21,e22]
      first|rfl|(go_simp;try rfl)
     ·refine jc rfl rfl rfl fun x1 y hB hF hD=>?_
      obtain ⟨d0,-⟩:=hD
      have e23:slot x1 23=.pointer (some ⟨b1,o1+k,none⟩):=d0 rfl
      have hc:y.cell? ⟨b1,o1+k,none⟩=some (.int .u64 yv):=jb hB HY.out
      clear hB hF
      simp only [execOp,ja,e23]
      first|rfl|(go_simp;try rfl)
    ·intro x1 y hB hF hP
     obtain ⟨p0,p1,p2,p3,p4,p5,p6,p7,-⟩:=hP
     have hx:=jj hF [(17,.slice (some ⟨b0,o0,none⟩) l.length c0),(18,.int .i64 k),(19,.pointer (some ⟨b0,o0+k,none⟩)),(20,.int .u64 xv),(21,.slice (some ⟨b1,o1,none⟩) m.length c1),(22,.int .i64 k),(23,.pointer (some ⟨b1,o1+k,none⟩)),(24,.int .u64 yv)] rfl ⟨p0,p1,p2,p3,p4,p5,p6,p7,trivial⟩
     have HB2:=k8 (HB.out.trans (hB.mono (by have:=HB.out.size;omega)))
     clear hB hF p0 p1 p2 p3 p4 p5 p6 p7
     subst hx
     simp only [puts,Act.put,we,wg,wi,wj,wk]
     by_cases hxy:xv=yv
     ·have tq:(xv != yv)=false:=by simp [hxy]
      have HE:=k8 hxy
      clear hxy
      go_wp2_with fail
      go_roundw
      case rel=>exact ⟨k+1,hlt,by go_num,HB2.out,HSt.out.2 HE.out⟩
      case measure=>simp [intOf];omega
     ·have tq:(xv != yv)=true:=by simp [hxy]
      have hD:=HDf.out hxy
      have hd:decide (l=m)=false:=by simp [hD]
      have HD:=k8 hd
      clear hxy hD hd
      go_wp2_with fail
      go_ret
      exact ⟨by rw [HD.out];rfl,HB2.out⟩
   ·have hkk:k=l.length:=by omega
    subst hkk
    have hd:decide (l=m)=true:=by
     rw [ww (wo _),ww (by have:=HLn.out;omega)] at hP
     simp [hP]
    have HD:=k8 hd
    have HB:=k8 hBr
    clear hd hP hBr
    go_wp2_with fail
    go_ret
    exact ⟨by rw [HD.out];rfl,HB.out⟩
 ·have hne:((l.length:Int) != m.length)=true:=by simp;omega
  have hd:decide (l=m)=false:=by
   simp only [decide_eq_false_iff_not]
   intro h
   exact hln (by rw [h])
  have HD:=k8 hd
  clear hln hd
  go_enter Tryz.func19,Tryz.ntmps19
  go_wp2_with fail
  go_ret
  exact ⟨by rw [HD.out];rfl,wu _ _⟩
end
section
def numE (n:Int):Expr:=⟨0,n,⟨#[]⟩,[]⟩
def varE (c:UInt8):Expr:=⟨1,0,⟨#[c]⟩,[]⟩
def prm (c:UInt8):z8:=⟨⟨#[c]⟩,0,0⟩
def awakeSrc:Src:=⟨[⟨⟨#[107]⟩,2⟩],[⟨⟨#[102]⟩,true,[prm 105],[⟨1,⟨#[107]⟩,0,[varE 105,numE 5],[],[]⟩,⟨4,⟨#[]⟩,0,[⟨6,0,⟨#[]⟩,[⟨2,0,⟨#[107]⟩,[numE 3]⟩]⟩],[],[]⟩]⟩]⟩
theorem awake_run:runS awakeSrc 0 [1] [[0,0]] []=(0,⟨5,[5],[[0,5]],[]⟩):=by kernel_rfl
theorem awake_none:runS awakeSrc 0 [] [[0,0]] []=(1,⟨0,[],[],[]⟩):=by kernel_rfl
end
section
open Go.RowKit
theorem results_cell_tmp_row {P:Program} {fn:Func} {p u:Tmp} {ty:TypeId} (h:fn.results=#[.cell p ty,.tmp u]) (tmps:Array Value) (w:World) (g:Nat) (t:TypeId) (cs:Array Value) (fr:Nat×Nat) (d:TypeDesc)
  (hp:tmps.getD p undef=.pointer (some ⟨g,0,none⟩)) (hg:w.heap[g]?=some (.cells cs t fr))
  (hu:P.underlying ty=some d) (hd:(match d with|.struct _|.array _ _=>true|_=>false)=true) (hi:(P.info? ty).map (·.size)=some cs.size) (v:Value) (hv:tmps.getD u undef=v) :
  (results fn tmps).run P w=.ok (.tuple #[.agg cs,v]) w:=by
 have hp':tmps[p]?.getD undef=.pointer (some ⟨g,0,none⟩):=by simpa using hp
 rw [results_cell_tmp h,hv]
 simp [hp',asAddr,run_loadVar_row w g t ty cs fr d hg hu hd hi,Result.andThen]
theorem stepB_map {B:Nat} {P:Program} {ops fo:Array Oper} {Q:Exit→Act→World→Prop} {L:List MP} {w₀:World} {a₀:Act} {i:Nat} {o:Oper} {t:TypeId} (hgd:o.guard=none) (hd:o.dst.isSome=true) (hop:o.op=Op.makeMap t none) (hL:L.getD i MP.any=mpMap B) (hBw:B≤w₀.heap.size):StepB P ops fo Q L w₀ a₀ i o:=by
 intro a w hB hF hD
 obtain ⟨hg,h⟩:=stepN_map (P:=P) (ops:=ops) (fo:=fo) (Q:=Q) (L:=L) (a₀:=a₀) hgd hd hop hL hBw a w hB hF hD
 rw [if_pos (by simp [Region.wanted,hg])]
 refine Oper.wp_mono ?_ h
 rintro a' y' ⟨v,rfl,h1,h2,_⟩
 exact ⟨v,rfl,h1,h2⟩
def mpOwnW (S:Nat) (l:List Int):MP:=⟨fun v x=>x.ownsRow S 35 1 v l.length (l.map (Value.int .u64)),fun _ _ _ h hb=>jv h hb⟩
def mpOneV (V:Value):MP:=⟨fun v w=>∃ b,v=.slice (some ⟨b,0,none⟩) 1 1∧w.cell? ⟨b,0,none⟩=some V,fun v x y ⟨b,h1,h2⟩ hb=>⟨b,h1,jb hb h2⟩⟩
theorem own_shape {w:World} {S:Nat} {v:Value} {l:List Int} (h:w.ownsRow S 35 1 v l.length (l.map (Value.int .u64))):∃ a c,v=.slice a l.length c∧l.length≤c∧(a=none→c=0)∧(l≠[]→∃ b,a=some ⟨b,0,none⟩∧S≤b∧b<w.heap.size∧∃ cur,w.heap[b]?=some (.cells cur 35 (0,0))):=by
 rcases h.2 with ⟨rfl,h0⟩|⟨g,cap,cur,rfl,hb,hc,hle,_⟩
 ·exact ⟨none,0,by rw [h0],by omega,fun _=>rfl,fun hn=>absurd (List.eq_nil_of_length_eq_zero h0) hn⟩
 ·exact ⟨_,_,rfl,hle,fun e=>(by cases e),fun _=>⟨g,rfl,hb,(wl.1 hc).1,cur,hc⟩⟩
theorem mayS_true {p:Src} {f:Int} {args:List Int} {secs:List (List Int)} {shared:List Int} (h:mayS p f args secs shared=true):checkS p=0∧∃ fn:Nat,f=fn∧∃ g,p.funcs[fn]?=some g∧args.length=g.params.length∧vu p.secrets secs=true∧shared.length≤512∧(g.params.zip args).all (fun x=>xu shared.length x.1 x.2)=true:=by
 unfold mayS at h
 by_cases h1:checkS p≠0∨f<0
 ·rw [if_pos h1] at h;cases h
 ·rw [if_neg h1] at h
  simp only [not_or,Decidable.not_not] at h1
  cases hg:p.funcs[f.toNat]? with
  | none=>rw [hg] at h;cases h
  | some g=>
   rw [hg] at h
   simp only at h
   by_cases h2:args.length≠g.params.length∨vu p.secrets secs=false∨512<shared.length
   ·rw [if_pos h2] at h;cases h
   ·rw [if_neg h2] at h
    simp only [not_or,Decidable.not_not,Bool.not_eq_false] at h2
    exact ⟨h1.1,f.toNat,by omega,g,hg,h2.1,h2.2.1,by omega,h⟩
def OutIs (w:World) (o:Out) (v:Value):Prop:=∃ a1 c1 a2 c2 a3 c3,v=.agg #[.int .u64 o.value,.slice a1 o.opened.length c1,.slice a2 o.secs.length c2,.slice a3 o.shared.length c3]∧WSl w (.slice a1 o.opened.length c1) o.opened∧Sl 1 (WAt w) (.slice a2 o.secs.length c2) o.secs∧WSl w (.slice a3 o.shared.length c3) o.shared
def RunRet (w:World) (R:Int×Out) (e:Ending) (w':World):Prop:=Below w.heap.size w w'∧∃ v,e=.returned (.tuple #[v,.int .i64 R.1])∧OutIs w' R.2 v∧U64 R.2.value∧(∀ l∈R.2.secs,∀ x∈l,U64 x)∧(∀ x∈R.2.shared,U64 x)
theorem own_keptM {M:List Nat} {w w':World} {S n:Nat} {t:TypeId} {v:Value} {xs:List Value} (h:w.ownsRow S t 1 v n xs) (k:Kept M w w') (hM:∀ g,v.ownBlock=some g→g ∉ M):w'.ownsRow S t 1 v n xs:=by
 obtain ⟨h1,h2⟩:=h
 refine ⟨h1,?_⟩
 rcases h2 with h2|⟨g,cap,cur,rfl,hb,hc,r⟩
 ·exact .inl h2
 ·exact .inr ⟨g,cap,cur,rfl,hb,(k.block _ (wl.1 hc).1 (hM g rfl)).trans hc,r⟩
theorem row_kept {M:List Nat} {w w':World} {b:Nat} {l:List Int} (h:RowAt w b l) (k:Kept M w w') (hb:b ∉ M):RowAt w' b l:=fun j x hj=>⟨k.cellK (h j x hj).1 hb,(k.frozenK (k9 w _ (h j x hj).1) hb).trans (h j x hj).2⟩
theorem own_slices {w:World} {S n:Nat} {v:Value} {xs:List Value} (h:w.ownsRow S 26 1 v n xs):∃ a c,v=.slice a n c∧n≤c∧(a=none→c=0)∧(n≠0→∃ b,a=some ⟨b,0,none⟩∧S≤b∧∀ (j:Nat) (u:Value),xs[j]?=some u→w.cell? ⟨b,j,none⟩=some u):=by
 have hc:=h
 rcases h.2 with ⟨rfl,h0⟩|⟨g,cap,cur,rfl,hb,hcc,hle,_⟩
 ·exact ⟨none,0,by rw [h0],by omega,fun _=>rfl,fun hn=>absurd h0 hn⟩
 ·refine ⟨_,_,rfl,hle,fun e=>(by cases e),fun _=>⟨g,rfl,hb,fun j u hj=>?_⟩⟩
  have:=hc.cells (g:=g) rfl j u hj
  have ha:(⟨g,0,none⟩:Addr).add j=⟨g,j,none⟩:=by unfold Addr.add;split<;>simp_all
  rwa [ha] at this
theorem info_words:(Tryz.prog.info? 26).map (fun i=>(i.zero,i.size,i.bytes))=some (some (.slice none 0 0),1,24):=by kernel_rfl
structure OutAt (O:Nat) (y:Int) (ov:Value) (va:Option Addr) (k vc:Nat) (vals:List Value) (wr:World):Prop where
 heap:wr.heap[O]?=some (.cells #[.int .u64 y,ov,.slice va k vc,.slice none 0 0] 37 (0,0))
 own:wr.ownsRow (O+1) 26 1 (.slice va k vc) k vals
def valsOf (lv:List (ByteArray×Value)) (l:List Arr):List Value:=l.map fun a=>(aget lv a.name).getD (.slice none 0 0)
def zeroOut:Array Value:=#[.int .u64 0,.slice none 0 0,.slice none 0 0,.slice none 0 0]
theorem wsl_nil (w:World):WSl w (.slice none 0 0) []:=⟨none,0,rfl,by simp,by simp,fun _=>rfl,fun h=>absurd rfl h⟩
theorem outIs_zero (w:World):OutIs w ⟨0,[],[],[]⟩ (.agg zeroOut):=⟨none,0,none,0,none,0,rfl,wsl_nil w,⟨none,0,rfl,by simp,by simp,fun h=>absurd rfl h⟩,wsl_nil w⟩
theorem out_rows {w:World} {p:Src} {bk:List Nat} {secs:List (List Int)} {shared:List Int} {st:St} (hF:kg p) (hs:vu p.secrets secs=true)
  (hrows:∀ (r:Nat) (l:List Int) (b:Nat),st.mem[r]?=some l→bk[r]?=some b→RowAt w b l) (hsh:st.mem.map (·.length)=(secs++[shared]).map (·.length)) {lv:List (ByteArray×Value)} (he:lv.map (fun x=>(x.1,absV bk x.2))=(xy p.secrets).map fun x=>(x.1,some x.2)) {a:Arr} (ha:a∈p.secrets) :
  ∃ b c,(aget lv a.name).getD (.slice none 0 0)=.slice (some ⟨b,0,none⟩) (st.mem.getD (refAt (xy p.secrets) a.name).row []).length c∧WSl w (.slice (some ⟨b,0,none⟩) (st.mem.getD (refAt (xy p.secrets) a.name).row []).length c) (st.mem.getD (refAt (xy p.secrets) a.name).row []):=by
 obtain ⟨hl,hal⟩:=sameLens_at hs
 have hsome:=secF_some a.name p.secrets 0 [] (.inr ⟨a,ha,by simp⟩)
 obtain ⟨r,hr⟩:=Option.isSome_iff_exists.1 hsome
 have hr':aget (xy p.secrets) a.name=some r:=hr
 have hra:refAt (xy p.secrets) a.name=r:=by unfold refAt;rw [hr'];rfl
 obtain ⟨t,htm⟩:=aget_mem hr'
 rcases secF_mem p.secrets 0 [] htm with h|⟨j,a',hj,e⟩
 ·cases h
 simp only [Nat.zero_add] at e
 obtain ⟨v,hv,hab⟩:=(RefsAt.get (w:=w) (b:=0) he a.name).2 r hr'
 obtain ⟨b,c,rfl,hb,hc⟩:=absV_some hab
 rw [hra,hv,e]
 rw [e] at hb hc
 simp only at hb hc
 have hj2:j<secs.length:=by rw [← hl];exact (List.getElem?_eq_some_iff.1 hj).1
 have hlen:=hal j a' secs[j] hj (by simp [hj2])
 have ha':=(hF.arrs a' (gg hj)).2
 have hm:∃ l,st.mem[j]?=some l∧l.length=secs[j].length:=by
  have:=congrArg (fun q=>q[j]?) hsh
  simp only [List.getElem?_map,List.getElem?_append_left hj2,List.getElem?_eq_getElem hj2,Option.map_some] at this
  cases hq:st.mem[j]? with
  | none=>rw [hq] at this;simp at this
  | some l=>rw [hq] at this;exact ⟨l,rfl,by simpa using this⟩
 obtain ⟨l,hml,hll⟩:=hm
 have hgd:st.mem.getD j []=l:=by rw [List.getD_eq_getElem?_getD,hml];rfl
 simp only
 rw [hgd]
 have ho:r.off=0:=by rw [e]
 have e1:a'.len.toNat=l.length:=by omega
 refine ⟨b,c,by simp [e1],_,_,rfl,by omega,by omega,fun h=>(by cases h),fun _=>⟨b,0,rfl,fun k x hk=>?_⟩⟩
 rw [Nat.zero_add]
 exact (hrows j l b hml hb k x hk).1
theorem out_shared {w:World} {bk:List Nat} {bs:Nat} {sa:Option Addr} {sc:Nat} {secs:List (List Int)} {shared:List Int} {st:St} (hbk:bk[secs.length]?=some bs)
  (hrows:∀ (r:Nat) (l:List Int) (b:Nat),st.mem[r]?=some l→bk[r]?=some b→RowAt w b l) (hsh:st.mem.map (·.length)=(secs++[shared]).map (·.length)) (hc:shared.length≤sc) (hl:shared.length≤512) (hn:sa=none→sc=0) (hs:shared≠[]→sa=some ⟨bs,0,none⟩) :
  (st.mem.getD secs.length []).length=shared.length∧WSl w (.slice sa shared.length sc) (st.mem.getD secs.length []):=by
 have hm:∃ l,st.mem[secs.length]?=some l∧l.length=shared.length:=by
  have:=congrArg (fun q=>q[secs.length]?) hsh
  simp only [List.getElem?_map,List.getElem?_append_right (wo _),Nat.sub_self,List.getElem?_cons_zero,Option.map_some] at this
  cases hq:st.mem[secs.length]? with
  | none=>rw [hq] at this;simp at this
  | some l=>rw [hq] at this;exact ⟨l,rfl,by simpa using this⟩
 obtain ⟨l,hml,hll⟩:=hm
 have hgd:st.mem.getD secs.length []=l:=by rw [List.getD_eq_getElem?_getD,hml];rfl
 rw [hgd]
 refine ⟨hll,sa,sc,by rw [hll],by omega,by omega,hn,fun hne=>?_⟩
 have hsn:shared≠[]:=fun h=>by rw [h] at hll;exact hne (List.eq_nil_of_length_eq_zero hll)
 refine ⟨bs,0,hs hsn,fun k x hk=>?_⟩
 rw [Nat.zero_add]
 exact (hrows _ l bs hml hbk k x hk).1
theorem run_done {w w6 wz:World} {p:Src} {bk:List Nat} {wb ob sb N bs:Nat} {sa oa va:Option Addr} {sc oc vc:Nat} {secs:List (List Int)} {shared:List Int} {shp:List Nat} {lv:List (ByteArray×Value)} {yv:Vars} {yval:Int} {yst:St}
  (hF:kg p) (hs:vu p.secrets secs=true) (hshl:shared.length≤512) (hR:vh w p bk wb ob sb (.slice sa shared.length sc) (xy p.secrets) shp yst w6) (hshp:(secs++[shared]).map (·.length)=shp)
  (hbks:bk[secs.length]?=some bs) (hn:N ∉ bk) (hN:w.heap.size≤N) (hNo:N<ob) (hO:w6.ownsRow ob 35 1 (.slice oa yst.opened.length oc) yst.opened.length (yst.opened.map (Value.int .u64))) (hlen:yst.opened.length≤1000000)
  (hle:lv.map (fun x=>(x.1,absV bk x.2))=(xy p.secrets).map fun x=>(x.1,some x.2)) (hB6:Below w.heap.size w w6) (hB7:Below w6.heap.size w6 wz) (hV:wz.ownsRow (w6.heap.size+1) 26 1 (.slice va p.secrets.length vc) p.secrets.length (valsOf lv p.secrets))
  (hsc:shared.length≤sc) (hsn:sa=none→sc=0) (hbs:shared≠[]→sa=some ⟨bs,0,none⟩) (hu:U64 yval) {cz:Array Value} {tz:TypeId} {fz:Nat×Nat} (hz:wz.heap[N]?=some (.cells cz tz fz)) :
  RunRet w (0,outS p secs.length (yv,yval,yst)) (.returned (.tuple #[.agg #[.int .u64 yval,.slice oa yst.opened.length oc,.slice va p.secrets.length vc,.slice sa shared.length sc],.int .i64 0])) (wz.setRow N #[.int .u64 yval,.slice oa yst.opened.length oc,.slice va p.secrets.length vc,.slice sa shared.length sc]):=by
 generalize hcs:(#[.int .u64 yval,.slice oa yst.opened.length oc,.slice va p.secrets.length vc,.slice sa shared.length sc]:Array Value)=CS
 have k0:Kept [N] wz (wz.setRow N CS):=by
  have hb:Below N wz (wz.setRow N CS):=below_setRow (wu _ _) (wo _) CS
  exact ⟨hb.os,hb.tape,hb.output,hb.size,fun i hi hm=>Go.setRow_other wz N i CS (by simpa using hm)⟩
 have k6:Kept [N] w6 (wz.setRow N CS):=(jd hB7).trans k0
 have hBF:Below w.heap.size w (wz.setRow N CS):=below_setRow (hB6.trans (hB7.mono hB6.size)) hN CS
 have hrows:∀ (r:Nat) (l:List Int) (b:Nat),yst.mem[r]?=some l→bk[r]?=some b→RowAt (wz.setRow N CS) b l:=fun r l b h1 h2=>row_kept (hR.rows r l b h1 h2) k6 (by
  have hb:=gg h2
  simp only [wy]
  intro e
  exact hn (e ▸ hb))
 have hOf:=own_keptM hO k6 (fun g hg=>by have:=ks hO g hg;simp;omega)
 have hbig:=hR.big
 have hVf:=own_keptM hV k0 (fun g hg=>by have:=ks hV g hg;simp;omega)
 obtain ⟨va',vc',e,hle1,hn1,hcells⟩:=own_slices hVf
 simp only [Value.slice.injEq] at e
 obtain ⟨rfl,-,rfl⟩:=e
 have hshape:yst.mem.map (·.length)=(secs++[shared]).map (·.length):=hR.shape.trans hshp.symm
 obtain ⟨hsl,hsw⟩:=out_shared (w:=wz.setRow N CS) hbks hrows hshape hsc hshl hsn hbs
 refine ⟨hBF,_,rfl,⟨oa,oc,va,vc,sa,sc,?_,wsl_own hOf (by show yst.opened.length≤_;omega),?_,?_⟩,hu,?_,?_⟩
 ·rw [← hcs]
  simp only [outS,List.length_map,hsl]
 ·refine ⟨va,vc,rfl,?_,?_,fun hne=>?_⟩
  ·simp only [outS,List.length_map];exact hle1
  ·simp only [outS,List.length_map];have:=hF.many.1;omega
  ·have hne0:p.secrets.length≠0:=by
    intro h0
    refine hne ?_
    simp only [outS]
    rw [List.eq_nil_of_length_eq_zero h0];rfl
   obtain ⟨b,hva,-,hc⟩:=hcells hne0
   refine ⟨b,0,hva,fun j x hj=>?_⟩
   simp only [outS,List.getElem?_map] at hj
   cases ha:p.secrets[j]? with
   | none=>rw [ha] at hj;cases hj
   | some a=>
    rw [ha] at hj
    simp only [Option.map_some,Option.some.injEq] at hj
    subst hj
    obtain ⟨kb,kc,hvk,hwk⟩:=out_rows (w:=wz.setRow N CS) hF hs hrows hshape hle (gg ha)
    refine ⟨_,?_,hwk⟩
    rw [Nat.zero_add,Nat.mul_one]
    refine hc j _ ?_
    unfold valsOf
    rw [List.getElem?_map,ha]
    simp only [Option.map_some]
    rw [hvk]
 ·simp only [outS]
  rw [hsl]
  exact hsw
 ·intro l hl x hx
  simp only [outS,List.mem_map] at hl
  obtain ⟨a,-,rfl⟩:=hl
  rw [List.getD_eq_getElem?_getD] at hx
  cases hm:yst.mem[(refAt (xy p.secrets) a.name).row]? with
  | none=>rw [hm] at hx;cases hx
  | some l=>rw [hm] at hx;exact hR.nums l (gg hm) x hx
 ·intro x hx
  simp only [outS] at hx
  rw [List.getD_eq_getElem?_getD] at hx
  cases hm:yst.mem[secs.length]? with
  | none=>rw [hm] at hx;cases hx
  | some l=>rw [hm] at hx;exact hR.nums l (gg hm) x hx
end
end Go.Proofs.YtdembmaldllmkaaGreatDoor
