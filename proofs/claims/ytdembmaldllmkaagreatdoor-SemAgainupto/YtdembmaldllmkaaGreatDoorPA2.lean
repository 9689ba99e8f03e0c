/-
  Part of the proofs of laws over the given program: contracts of its functions (what each computes, of which input), and the tables and data that they read.
  Conditions: none beyond the theorems' own hypotheses.
-/
import Derived.Test.YtdembmaldllmkaaGreatDoorPA1
import Derived.Maps.Own
import Derived.Maps.OwnOps
import Derived.LoopTactic
import Derived.KernelRfl
import Derived.BigGuardPart
import Derived.Laws.RangeString
import Derived.Laws.Runes
set_option linter.unusedVariables false
set_option linter.unusedSimpArgs false
set_option maxHeartbeats 32000000
set_option maxRecDepth 100000
namespace Go.Proofs.YtdembmaldllmkaaGreatDoor
section
open Go.RowKit
theorem vi {P:Program} {ops:Array Oper} {Q:Exit→Act→World→Prop} {id:Nat} {a₀:Act} {w:World} (L:List MP) (fit:qz ops a₀.tmps.size=true)
  (m:Nat) (hms:m<ops.size) (rest:List Oper) (hrest:ops.toList.drop m=rest)
  (steps:StepsB P ops (ops.toList.take m).toArray Q L w a₀ 0 (ops.toList.take m))
  (tail:∀ (a:Act) (w':World),Below w.heap.size w w'→Frm (ops.toList.take m).toArray a₀ a→FinB L a w' 0 (ops.toList.take m)→wpList P ops Q rest a w'):(Code.region id ops false).wp P Q a₀ w:=by
 have F:=fit_of fit
 have htake:∀ (i:Nat) (x:Oper),i<m→ops[i]?=some x→(ops.toList.take m)[i]?=some x:=by
  intro i x hne hi
  rw [List.getElem?_take,if_pos hne]
  simpa using hi
 have hfo:∀ (i:Nat) (x:Oper),i<m→ops[i]?=some x→(ops.toList.take m).toArray[i]?=some x:=by
  intro i x hne hi
  rw [List.getElem?_toArray]
  exact htake i x hne hi
 refine _root_.Go.wp_region_list ?_
 have hnew:∀ (k:Nat) (o:Oper) (a:Act) (x x':World) (v:Value),ops[k]?=some o→a.tmps.size=a₀.tmps.size→Below x.heap.size x x'→y7 L k (if o.dst=none then undef else v) x'→(∀ (i:Nat) (y:Oper),i<k→ops[i]?=some y→y7 L i (left a y) x) →
   ∀ (i:Nat) (y:Oper),i<k+1→ops[i]?=some y→y7 L i (left (a.put o.dst v) y) x':=by
  intro k o a x x' v ho hsz hb hp hP i y hi hy
  by_cases hik:i=k
  ·subst hik
   obtain rfl:y=o:=by rw [ho] at hy;exact (Option.some.inj hy).symm
   cases hd:y.dst with
   | none=>simpa [left,hd] using hp
   | some d=>
    have hlt:=F.lt i y d hy hd
    simp only [left,hd]
    rw [qp _ _ _ (by rw [hsz];exact hlt)]
    simpa [hd] using hp
  ·have hold:=(L.getD i MP.any).mono _ _ _ (hP i y (by omega) hy) hb
   have he:left (a.put o.dst v) y=left a y:=by
    unfold left
    cases hd:y.dst with
    | none=>rfl
    | some d=>
     cases hd':o.dst with
     | none=>rfl
     | some d'=>
      simp only
      exact vn _ _ _ _ (fun e=>hik (F.own i k y o d hy ho hd (e ▸ hd')))
   rw [he]
   exact hold
 have key:∀ (n k:Nat) (a:Act) (x:World),n+k=m→Below w.heap.size w x→Frm (ops.toList.take m).toArray a₀ a→(∀ (i:Nat) (y:Oper),i<k→ops[i]?=some y→y7 L i (left a y) x)→wpList P ops Q (ops.toList.drop k) a x:=by
  intro n
  induction n with
  | zero=>
   intro k a x hk hT hF hP
   obtain rfl:k=m:=by omega
   rw [hrest]
   refine tail a x hT hF (finB_of _ 0 (fun i y hy=>?_))
   rw [Nat.zero_add]
   have hi:i<k:=by
    have:=(List.getElem?_eq_some_iff.1 hy).1
    rw [List.length_take] at this
    omega
   rw [List.getElem?_take,if_pos hi] at hy
   exact hP i y hi (by simpa using hy)
  | succ n ih=>
   intro k a x hk hT hF hP
   have hkl:k<ops.toList.length:=by simp;omega
   have ho:ops[k]?=some ops.toList[k]:=by simp
   rw [List.drop_eq_getElem_cons hkl]
   have h:=stepsB_at (ops.toList.take m) 0 steps k _ (htake k _ (by omega) ho)
   rw [Nat.zero_add] at h
   have h:=h a x hT hF (depsB_of _ (fun j z hj ⟨e,he,h1,h2⟩=>hP j z (by rw [← h1];exact F.on k _ e ho (by simpa using he) h2) hj) (fun e he hb=>by
    have h1:=F.on k _ e ho (by simpa using he) hb
    simp at hkl
    omega))
   generalize ops.toList[k]=o at *
   unfold wpList
   split
   ·rename_i hw
    rw [if_pos hw] at h
    refine .inl (Oper.wp_mono ?_ h)
    rintro a' x' ⟨v,rfl,hb,hp⟩
    exact ih (k+1) _ x' (by omega) (hT.trans (hb.mono hT.size)) (hF.put (hfo k o (by omega) ho) v) (hnew k o a x x' v ho hF.size hb hp hP)
   ·rename_i hw
    rw [if_neg hw] at h
    exact ih (k+1) _ x (by omega) hT (hF.put (hfo k o (by omega) ho) undef) (hnew k o a x x undef ho hF.size (wu _ _) (by split<;>exact h) hP)
 have:=key m 0 a₀ w (by omega) (wu _ _) ⟨rfl,rfl,fun _ _=>rfl⟩ (fun i y hi=>by omega)
 simpa using this
end
section
open Go.RowKit
open Go.ChangeMaps
theorem bytes_beq (a b:ByteArray):(a == b)=(a.data == b.data):=by cases a;cases b;rfl
instance lawfulBytes:LawfulBEq ByteArray where
 eq_of_beq:=fun {a b} h=>by
  rw [bytes_beq] at h
  have:=eq_of_beq h
  cases a;cases b
  simp only at this
  rw [this]
 rfl:=fun {a}=>by rw [bytes_beq];simp
section
variable {K V:Type} [BEq K] [LawfulBEq K]
def aget:List (K×V)→K→Option V
 | [],_=>none
 | (a,u)::l,k=>if k == a then some u else aget l k
def aput:List (K×V)→K→V→List (K×V)
 | [],k,v=>[(k,v)]
 | (a,u)::l,k,v=>if k == a then (k,v)::l else (a,u)::aput l k v
theorem k7 (l:List (K×V)) (k j:K) (v:V):aget (aput l k v) j=if j == k then some v else aget l j:=by
 induction l with
 | nil=>simp [aput,aget]
 | cons x l ih=>
  obtain ⟨a,u⟩:=x
  unfold aput
  by_cases h:(k == a)=true
  ·rw [if_pos h]
   have:=eq_of_beq h
   subst this
   simp only [aget]
   split<;>rfl
  ·rw [if_neg h]
   simp only [aget,ih]
   by_cases hj:(j == a)=true
   ·rw [if_pos hj]
    have:=eq_of_beq hj
    subst this
    rw [if_neg (fun e=>h (by have:=eq_of_beq e;subst this;simp))]
    simp
   ·rw [if_neg hj,if_neg hj]
omit [LawfulBEq K] in
theorem aput_length (l:List (K×V)) (k:K) (v:V):(aput l k v).length=if (aget l k).isSome=true then l.length else l.length+1:=by
 induction l with
 | nil=>simp [aput,aget]
 | cons x l ih=>
  obtain ⟨a,u⟩:=x
  cases h:(k == a) with
  | true=>simp [aput,aget,h]
  | false=>
   have e1:aput ((a,u)::l) k v=(a,u)::aput l k v:=by simp [aput,h]
   have e2:aget ((a,u)::l) k=aget l k:=by simp [aget,h]
   rw [e1,e2,List.length_cons,ih]
   split<;>rfl
end
structure KeyLaw (P:Program) {K:Type} [BEq K] (kt:TypeId) (κ:K→Value):Prop where
 desc:∃ d,P.underlying kt=some d∧∀ a b,Instr.sameNow d (κ a) (κ b)=some (a == b)
 bits:∀ a,Instr.sameBits 10000 (κ a) (κ a)=true
 check:∀ e a w,(Instr.checkKey e 10000 kt (κ a)).run P w=.ok () w
def j5 {K:Type} (κ:K→Value) (w:World) (b:Nat) (l:List (K×Value)):Prop:=
 ∃ es clock,w.heap[b]?=some (.map es clock)∧es.toList.map (fun e:MapEntry=>(e.key,e.val))=l.map fun x=>(κ x.1,x.2)
section
variable {K:Type} {κ:K→Value} {w:World} {b:Nat} {l:List (K×Value)}
theorem j5.lt (h:j5 κ w b l):b<w.heap.size:=by
 obtain ⟨es,clock,hb,_⟩:=h
 exact (wl.1 hb).1
theorem j5.block {w':World} (h:j5 κ w b l) (he:w'.heap[b]?=w.heap[b]?):j5 κ w' b l:=by
 obtain ⟨es,clock,hb,hl⟩:=h
 exact ⟨es,clock,he.trans hb,hl⟩
theorem j5.below {w':World} (h:j5 κ w b l) (hb:Below w.heap.size w w'):j5 κ w' b l:=h.block (hb.block b h.lt)
theorem j5.grown {w':World} {row:Option Nat} (h:j5 κ w b l) (hg:w.grownBy w' row) (hne:some b≠row):j5 κ w' b l:=h.block (hg.block b h.lt hne)
end
section
variable {P:Program} {K:Type} [BEq K] [LawfulBEq K] {kt:TypeId} {κ:K→Value} {w:World} {b:Nat} {l:List (K×Value)}
theorem findNow_get {d:TypeDesc} (hd:∀ a b,Instr.sameNow d (κ a) (κ b)=some (a == b)) (k:K):∀ (es:List MapEntry) (l:List (K×Value)) (i:Nat),es.map (fun e:MapEntry=>(e.key,e.val))=l.map (fun x=>(κ x.1,x.2)) →
  ∃ r,Instr.findNow d (κ k) es i=some r∧(r.map (·.2))=aget l k∧∀ j v,r=some (j,v)→i≤j∧∃ x,es[j - i]?=some x∧x.key=κ k∧∀ (u:Value) (clock:Nat),(es.modify (j - i) fun e:MapEntry=>{ e with key:=κ k,val:=u }).map (fun e:MapEntry=>(e.key,e.val))=(aput l k u).map fun x=>(κ x.1,x.2)
 | [],[],i,_=>⟨none,rfl,rfl,fun j v h=>by cases h⟩
 | [],_::_,_,h=>by simp at h
 | _::_,[],_,h=>by simp at h
 | e::es,(a,u)::l,i,h=>by
  simp only [List.map_cons,List.cons.injEq,Prod.mk.injEq] at h
  obtain ⟨⟨hk,hv⟩,ht⟩:=h
  unfold Instr.findNow
  rw [hk,hd k a]
  cases hka:(k == a) with
  | true=>
   have hka':=eq_of_beq hka
   refine ⟨some (i,e.val),rfl,by simp [aget,hka,hv],fun j v hj=>?_⟩
   simp only [Option.some.injEq,Prod.mk.injEq] at hj
   obtain ⟨rfl,-⟩:=hj
   refine ⟨wo _,e,by simp,by rw [hk,hka'],fun u' _=>?_⟩
   simp only [Nat.sub_self,List.modify_zero_cons,List.map_cons,aput,hka,if_true,ht]
  | false=>
   obtain ⟨r,h1,h2,h3⟩:=findNow_get hd k es l (i+1) ht
   refine ⟨r,h1,by rw [h2];simp [aget,hka],fun j v hj=>?_⟩
   obtain ⟨h4,x,h5,h6,h7⟩:=h3 j v hj
   refine ⟨by omega,x,by rw [show j - i=(j - (i+1))+1 by omega];simpa using h5,h6,fun u' c=>?_⟩
   rw [show j - i=(j - (i+1))+1 by omega]
   simp only [List.modify_succ_cons,List.map_cons,aput,hka,Bool.false_eq_true,if_false,h7 u' c,hk,hv]
omit [LawfulBEq K] in
theorem findNow_none {d:TypeDesc} (hd:∀ a b,Instr.sameNow d (κ a) (κ b)=some (a == b)) (k:K):∀ (es:List MapEntry) (l:List (K×Value)),es.map (fun e:MapEntry=>(e.key,e.val))=l.map (fun x=>(κ x.1,x.2))→aget l k=none→∀ (v:Value) (c:Nat),(es++[({ key:=κ k,val:=v,born:=c }:MapEntry)]).map (fun e:MapEntry=>(e.key,e.val))=(aput l k v).map fun x=>(κ x.1,x.2)
 | [],[],_,_,v,c=>by simp [aput]
 | [],_::_,h,_,_,_=>by simp at h
 | _::_,[],h,_,_,_=>by simp at h
 | e::es,(a,u)::l,h,hn,v,c=>by
  simp only [List.map_cons,List.cons.injEq,Prod.mk.injEq] at h
  obtain ⟨⟨hk,hv⟩,ht⟩:=h
  simp only [aget] at hn
  cases hka:(k == a) with
  | true=>rw [hka] at hn;simp at hn
  | false=>
   rw [hka] at hn
   have:=findNow_none hd k es l ht (by simpa using hn) v c
   simp only [List.cons_append,List.map_cons,aput,hka,Bool.false_eq_true,if_false,this,hk,hv]
theorem xr (KL:KeyLaw P kt κ) (h:j5 κ w b l) {t e:TypeId} (ht:P.underlying t=some (.map kt e)) {z:Value} (hz:(zeroValue e).run P w=.ok z w) (k:K) (ok:Bool) :
  (Instr.lookup t (.map (some b)) (κ k) ok).run P w=.ok (if ok=true then .tuple #[(aget l k).getD z,.bool (aget l k).isSome] else (aget l k).getD z) w:=by
 obtain ⟨es,clock,hb,hl⟩:=h
 obtain ⟨d,hd,hs⟩:=KL.desc
 obtain ⟨r,h1,h2,_⟩:=findNow_get hs k es.toList l 0 hl
 have hf:(Instr.findKey kt (κ k) es.toList).run P w=.ok r w:=by
  simp [Instr.findKey,run_underlying hd,h1]
 cases r with
 | none=>
  simp only [Option.map_none] at h2
  simp [Instr.lookup,run_underlying ht,MapKept.run_getObj_map hb,KL.check,hf,hz,Result.andThen,← h2]
 | some r=>
  obtain ⟨j,v⟩:=r
  simp only [Option.map_some] at h2
  simp [Instr.lookup,run_underlying ht,MapKept.run_getObj_map hb,KL.check,hf,Result.andThen,← h2]
theorem run_put (KL:KeyLaw P kt κ) (h:j5 κ w b l) {t e:TypeId} (ht:P.underlying t=some (.map kt e)) (k:K) (v:Value) :
  ∃ w',(Instr.mapUpdate t (.map (some b)) (κ k) v).run P w=.ok () w'∧j5 κ w' b (aput l k v)∧w.grownBy w' (some b)∧w'.heap.size=w.heap.size:=by
 obtain ⟨es,clock,hb,hl⟩:=h
 obtain ⟨d,hd,hs⟩:=KL.desc
 obtain ⟨r,h1,h2,h3⟩:=findNow_get hs k es.toList l 0 hl
 have hf:(Instr.findKey kt (κ k) es.toList).run P w=.ok r w:=by
  simp [Instr.findKey,run_underlying hd,h1]
 have hg:∀ o,w.grownBy (setBlock w b o) (some b):=fun o=>⟨rfl,rfl,rfl,by simp [setBlock],fun i _ hi=>heap_setBlock_other hb _ (fun e=>hi (by rw [e]))⟩
 cases r with
 | none=>
  refine ⟨_,?_,⟨es.push { key:=κ k,val:=v,born:=clock },clock+1,heap_setBlock_same hb _,?_⟩,hg _,by simp [setBlock]⟩
  ·simp [Instr.mapUpdate,run_underlying ht,MapKept.run_getObj_map hb,KL.check,hf,Result.andThen,MapKept.run_setObj_map _ hb,setBlock]
  ·simp only [Option.map_none] at h2
   rw [Array.toList_push]
   exact findNow_none hs k es.toList l hl h2.symm v clock
 | some r=>
  obtain ⟨j,u⟩:=r
  obtain ⟨_,x,hx,hxk,hm⟩:=h3 j u rfl
  simp only [Nat.sub_zero] at hx hm
  have hkeep:(Instr.keyThatStays (((es[j]?).map (·.key)).getD (κ k)) (κ k)).run P w=.ok (κ k) w:=by
   have:es[j]?=some x:=by simpa using hx
   simp [Instr.keyThatStays,this,hxk,KL.bits]
  refine ⟨_,?_,⟨es.modify j fun e:MapEntry=>{ e with key:=κ k,val:=v },clock,heap_setBlock_same hb _,?_⟩,hg _,by simp [setBlock]⟩
  ·simp [Instr.mapUpdate,run_underlying ht,MapKept.run_getObj_map hb,KL.check,hf,hkeep,Result.andThen,MapKept.run_setObj_map _ hb,setBlock]
  ·have:=hm v clock
   rw [Array.toList_modify]
   exact this
theorem yp {ops:Array Oper} {rest:List Oper} {o:Oper} {a:Act} {Q:Exit→Act→World→Prop}
  (hgd:o.guard=none) (m x:Operand) (t:TypeId) (ok:Bool) (hop:o.op=Op.lookup t m x ok) (KL:KeyLaw P kt κ) (e:TypeId) (ht:P.underlying t=some (.map kt e)) (z:Value) (hz:(zeroValue e).run P w=.ok z w)
  (hm:a.eval m=.map (some b)) (h:j5 κ w b l) (k:K) (hx:a.eval x=κ k)
  (hK:wpList P ops Q rest (a.put o.dst (if ok=true then .tuple #[(aget l k).getD z,.bool (aget l k).isSome] else (aget l k).getD z)) w):wpList P ops Q (o::rest) a w:=by
 refine wpList_plain hgd fun K' hK'=>?_
 have hrun:=xr KL h ht hz k ok
 unfold Oper.wp
 simp [execOp,hop,hm,hx,hrun,Result.andThen]
 exact hK' _ _ hK
theorem wpList_get_w {ops:Array Oper} {rest:List Oper} {o:Oper} {a:Act} {Q:Exit→Act→World→Prop}
  (hw:Region.wanted o (yielded ops a.tmps)=true) (m x:Operand) (t:TypeId) (ok:Bool) (hop:o.op=Op.lookup t m x ok) (KL:KeyLaw P kt κ) (e:TypeId) (ht:P.underlying t=some (.map kt e)) (z:Value) (hz:(zeroValue e).run P w=.ok z w)
  (hm:a.eval m=.map (some b)) (h:j5 κ w b l) (k:K) (hx:a.eval x=κ k)
  (hK:wpList P ops Q rest (a.put o.dst (if ok=true then .tuple #[(aget l k).getD z,.bool (aget l k).isSome] else (aget l k).getD z)) w):wpList P ops Q (o::rest) a w:=by
 rw [wpList,if_pos hw]
 have hrun:=xr KL h ht hz k ok
 refine .inl ?_
 unfold Oper.wp
 simp [execOp,hop,hm,hx,hrun,Result.andThen]
 exact hK
theorem vd {ops:Array Oper} {rest:List Oper} {o:Oper} {a:Act} {Q:Exit→Act→World→Prop}
  (hgd:o.guard=none) (m x y:Operand) (t:TypeId) (hop:o.op=Op.mapUpdate t m x y) (KL:KeyLaw P kt κ) (e:TypeId) (ht:P.underlying t=some (.map kt e))
  (hm:a.eval m=.map (some b)) (h:j5 κ w b l) (k:K) (v:Value) (hx:a.eval x=κ k) (hy:a.eval y=v)
  (hK:∀ w',j5 κ w' b (aput l k v)→w.grownBy w' (some b)→w'.heap.size=w.heap.size→wpList P ops Q rest (a.put o.dst undef) w'):wpList P ops Q (o::rest) a w:=by
 refine wpList_plain hgd fun K' hK'=>?_
 obtain ⟨w',hrun,h1,h2,h3⟩:=run_put KL h ht k v
 unfold Oper.wp
 simp [execOp,hop,hm,hx,hy,hrun,Result.andThen]
 exact hK' _ _ (hK w' h1 h2 h3)
end
theorem run_maplen {P:Program} {K:Type} {κ:K→Value} {w:World} {b:Nat} {l:List (K×Value)} {t kt e:TypeId} (ht:P.underlying t=some (.map kt e)) (ty:TypeId) (h:j5 κ w b l):(Builtin.len_ #[t] ty #[.map (some b)]).run P w=.ok (goInt l.length) w:=by
 obtain ⟨es,clock,hb,hl⟩:=h
 have:=congrArg List.length hl
 simp only [List.length_map,Array.length_toList] at this
 simp [Builtin.len_,run_underlying ht,MapKept.run_getObj_map hb,Result.andThen,this]
theorem keyLaw_string {P:Program} {kt:TypeId} (ht:P.underlying kt=some .string):KeyLaw P kt Value.string where
 desc:=⟨_,ht,fun a b=>rfl⟩
 bits:=fun a=>by rw [Instr.sameBits];exact beq_self_eq_true a
 check:=fun e a w=>by rw [show (10000:Nat)=9999+1 from rfl,Instr.checkKey];simp [run_underlying ht]
theorem keyLaw_int {P:Program} {kt:TypeId} {q:IntKind} (ht:P.underlying kt=some (.int q)):KeyLaw P kt (Value.int q) where
 desc:=⟨_,ht,fun a b=>by simp [Instr.sameNow]⟩
 bits:=fun a=>by simp [Instr.sameBits]
 check:=fun e a w=>by rw [show (10000:Nat)=9999+1 from rfl,Instr.checkKey];simp [run_underlying ht]
end
section
def jt (p:Src):List (ByteArray×Bool):=p.secrets.foldl (fun l a=>aput l a.name true) []
def zm (f:Fun):List (ByteArray×Int):=f.params.foldl (fun l x=>if x.kind=2 then aput l x.name x.len else l) []
def qw (f:Fun):List (ByteArray×Bool):=f.params.foldl (fun l x=>if x.kind=1 then aput l x.name true else l) []
def zf (l:List (ByteArray×Bool)) (s:ByteArray):Bool:=(aget l s).getD false
def isArr (p:Src) (f:Fun) (s:ByteArray):Bool:=(aget (zm f) s).isSome || zf (jt p) s
def calledP (s:ByteArray) (f:Fun):Bool:=f.name == s && !f.out
def yf (p:Src) (i:Nat) (s:ByteArray):Option Nat:=(p.funcs.take i).findIdx? (calledP s)
mutual
def y4:Expr→List Expr
 | ⟨k,n,s,xs⟩=>⟨k,n,s,xs⟩::z7 xs
def z7:List Expr→List Expr
 | []=>[]
 | e::es=>y4 e++z7 es
end
mutual
def evS:Stmt→List (Stmt ⊕ Expr)
 | ⟨k,s,n,xs,t,e⟩=>.inl ⟨k,s,n,xs,t,e⟩::((z7 xs).map .inr++evSs t++evSs e)
def evSs:List Stmt→List (Stmt ⊕ Expr)
 | []=>[]
 | x::xs=>evS x++evSs xs
end
def againAll (st:List (ByteArray×Bool)×Bool) (l:List ByteArray):List (ByteArray×Bool)×Bool:=
 l.foldl (fun st s=>(aput st.1 s true,zf st.1 s || st.2)) st
def twiceF (secrets:List (ByteArray×Bool)) (st:List (ByteArray×Bool)×Bool) (f:Fun):List (ByteArray×Bool)×Bool:=
 let st1:=againAll st [f.name]
 (st1.1,(againAll (secrets,st1.2) (f.params.map (·.name))).2)
def twiceS (p:Src):Bool:=
 let st:=againAll ([],false) (p.secrets.map (·.name))
 (p.funcs.foldl (twiceF st.1) st).2
def zh (p:Src) (i:Nat) (f:Fun):Stmt ⊕ Expr→Bool
 | .inl x=>(x.kind != 1) || isArr p f x.name
 | .inr x=>((x.kind != 2) || isArr p f x.name) && ((x.kind != 5) || (yf p i x.name).isSome)
def y0 (p:Src) (i:Nat) (f:Fun):Bool:=(evSs f.body).all (zh p i f)
mutual
def zj (p:Src) (i:Nat) (f:Fun):Expr→Bool
 | ⟨k,n,s,xs⟩=>
  if k=5 then (match yf p i s with|none=>false|some j=>match p.funcs[j]? with|none=>false|some g=>decide (xs.length=g.params.length) && vr p i f xs g.params)
  else (if k=1 then !isArr p f s else true) && typedEs p i f xs
def typedEs (p:Src) (i:Nat) (f:Fun):List Expr→Bool
 | []=>true
 | e::es=>zj p i f e && typedEs p i f es
def vr (p:Src) (i:Nat) (f:Fun):List Expr→List z8→Bool
 | [],_=>true
 | _::_,[]=>true
 | e::es,q::qs=>(if q.kind=2 then (e.kind == 1) && (match aget (zm f) e.name with|none=>false|some n=>decide (q.len≤n)) else zj p i f e) && vr p i f es qs
end
mutual
def typedS (p:Src) (i:Nat) (f:Fun) (loops:List ByteArray):Stmt→Bool
 | ⟨k,s,n,xs,t,e⟩=>
  (if k=0∨k=3 then !isArr p f s && !loops.contains s else true) && typedEs p i f xs &&
   (let inner:=if k=3 then loops++[s] else loops
   zw p i f inner t && zw p i f inner e)
def zw (p:Src) (i:Nat) (f:Fun) (loops:List ByteArray):List Stmt→Bool
 | []=>true
 | x::xs=>typedS p i f loops x && zw p i f loops xs
end
def xp (l:List (Stmt ⊕ Expr)):Nat:=l.countP fun ev=>match ev with|.inl x=>x.kind == 4|.inr _=>false
def yi (f:Fun):Bool:=
 decide (xp (evSs f.body)=1) && (match f.body.getLast? with|some x=>x.kind == 4|none=>false) && (!f.out || !f.params.any fun x=>x.kind == 1)
mutual
def q7 (arr sec:List (ByteArray×Bool)) (res:ByteArray→Bool):Expr→Bool
 | ⟨k,n,s,xs⟩=>if k=1 then zf sec s else if k=2 then zf arr s else if k=5 then res s else if k=6 then false else hiddenEs arr sec res xs
def hiddenEs (arr sec:List (ByteArray×Bool)) (res:ByteArray→Bool):List Expr→Bool
 | []=>false
 | e::es=>q7 arr sec res e || hiddenEs arr sec res es
end
def arg0 (xs:List Expr):Expr:=xs.getD 0 ⟨0,0,⟨#[]⟩,[]⟩
def arg1 (xs:List Expr):Expr:=xs.getD 1 ⟨0,0,⟨#[]⟩,[]⟩
def passEv (arr:List (ByteArray×Bool)) (res:ByteArray→Bool) (sec:List (ByteArray×Bool)):Stmt ⊕ Expr→List (ByteArray×Bool)
 | .inl x=>if x.kind=0 then (if q7 arr sec res (arg0 x.args)=true then aput sec x.name true else sec) else sec
 | .inr _=>sec
def pass (arr:List (ByteArray×Bool)) (res:ByteArray→Bool) (l:List (Stmt ⊕ Expr)) (sec:List (ByteArray×Bool)):List (ByteArray×Bool):=l.foldl (passEv arr res) sec
def q5 (arr:List (ByteArray×Bool)) (res:ByteArray→Bool) (l:List (Stmt ⊕ Expr)):Nat→List (ByteArray×Bool)→List (ByteArray×Bool)
 | 0,sec=>sec
 | n+1,sec=>q5 arr res l n (pass arr res l sec)
def spreadF (p:Src) (res:ByteArray→Bool) (f:Fun):List (ByteArray×Bool):=q5 (jt p) res (evSs f.body) (evSs f.body).length (qw f)
def resBy (p:Src) (i:Nat) (t:List Bool) (s:ByteArray):Bool:=match yf p i s with|none=>false|some j=>t.getD j false
def resultOf (p:Src) (i:Nat) (t:List Bool) (f:Fun):Bool:=
 q7 (jt p) (spreadF p (resBy p i t) f) (resBy p i t) (arg0 ((f.body.getLast?.map (·.args)).getD []))
def resTab (p:Src):Nat→List Bool
 | 0=>[]
 | n+1=>resTab p n++[match p.funcs[n]? with|none=>false|some f=>resultOf p n (resTab p n) f]
def resS (p:Src) (i:Nat) (s:ByteArray):Bool:=resBy p i (resTab p i) s
def secS (p:Src) (i:Nat) (f:Fun):List (ByteArray×Bool):=spreadF p (resS p i) f
def hid (p:Src) (i:Nat) (f:Fun) (x:Expr):Bool:=q7 (jt p) (secS p i f) (resS p i) x
def keptArgs (h:Expr→Bool):List Expr→List z8→Bool
 | _,[]=>true
 | [],_::_=>true
 | e::es,q::qs=>(if q.kind=0 then !h e else true) && keptArgs h es qs
def yy (p:Src) (i:Nat) (f:Fun) (h:Expr→Bool):Stmt ⊕ Expr→Bool
 | .inl x=>if x.kind=2 then !h (arg0 x.args) else if x.kind=1 then !h (arg0 x.args) && (if (aget (zm f) x.name).isSome=true then !h (arg1 x.args) else true) else if x.kind=4 then !f.out || !h (arg0 x.args) else true
 | .inr x=>if x.kind=2 then !h (arg0 x.args) else if x.kind=3∧(x.num=13∨x.num=15) then !h (arg0 x.args) && !h (arg1 x.args) else
   if x.kind=5 then (match yf p i x.name with|none=>true|some j=>match p.funcs[j]? with|none=>true|some g=>keptArgs h x.args g.params) else true
def keptF (p:Src) (i:Nat) (f:Fun):Bool:=(evSs f.body).all (yy p i f (hid p i f))
mutual
def costE (p:Src) (i:Nat) (t:List Int):Expr→Int
 | ⟨k,n,s,xs⟩=>min (1+(if k=5 then (match yf p i s with|none=>0|some j=>t.getD j 0) else 0)+qh p i t xs) 4001
def qh (p:Src) (i:Nat) (t:List Int):List Expr→Int
 | []=>0
 | e::es=>costE p i t e+qh p i t es
end
mutual
def costS (p:Src) (i:Nat) (t:List Int) (n:Int):Stmt→Int
 | ⟨k,s,num,xs,th,el⟩=>min (n+1+qh p i t xs+(if k=3 then num * (1+zz p i t 0 th) else zz p i t 0 th+zz p i t 0 el)) 4001
def zz (p:Src) (i:Nat) (t:List Int) (n:Int):List Stmt→Int
 | []=>n
 | x::xs=>zz p i t (costS p i t n x) xs
end
def qf (p:Src):Nat→List Int
 | 0=>[]
 | n+1=>qf p n++[match p.funcs[n]? with|none=>0|some f=>zz p n (qf p n) 0 f.body]
def kr (p:Src):Int:=
 if yh p=none then 1 else if twiceS p=true then 6
 else if p.funcs.zipIdx.all (fun x=>y0 p x.2 x.1)=false then 7
 else if p.funcs.zipIdx.all (fun x=>zw p x.2 x.1 [] x.1.body && yi x.1)=false then 8 else 0
def checkS (p:Src):Int:=
 if kr p≠0 then kr p
 else if p.funcs.zipIdx.all (fun x=>keptF p x.2 x.1)=false then 9
 else if (qf p p.funcs.length).all (fun n=>decide (n≤4000))=false then 4 else 0
end
section
open Go.RowKit
theorem jb {w w1:World} (h:Below w.heap.size w w1) {a:Addr} {v:Value} (hc:w.cell? a=some v):w1.cell? a=some v:=(h.cell (k9 w a hc)).trans hc
theorem IntAt.below {w w1:World} {k:IntKind} {b o:Nat} {n:Int} (h:IntAt w k b o n) (hb:Below w.heap.size w w1):IntAt w1 k b o n:=jb hb h
theorem StrAt.below {w w1:World} {b o:Nat} {s:ByteArray} (h:StrAt w b o s) (hb:Below w.heap.size w w1):StrAt w1 b o s:=⟨jb hb h.1,h.2⟩
theorem Sl.imp {α:Type} {sz:Nat} {R R':Nat→Nat→α→Prop} {v:Value} {l:List α} (h:Sl sz R v l) (hR:∀ b o x,x∈l→R b o x→R' b o x):Sl sz R' v l:=by
 obtain ⟨a,c,h1,h2,h3,h4⟩:=h
 refine ⟨a,c,h1,h2,h3,fun hne=>?_⟩
 obtain ⟨b,o,ha,hr⟩:=h4 hne
 exact ⟨b,o,ha,fun j x hx=>hR _ _ _ (gg hx) (hr j x hx)⟩
theorem Sl.nil {α:Type} (sz:Nat) (R:Nat→Nat→α→Prop) (a:Option Addr) (c:Nat):Sl sz R (.slice a 0 c) []:=⟨a,c,rfl,gj _,by simp,fun h=>absurd rfl h⟩
theorem exprsAt_row (w:World) (b:Nat):∀ (l:List Expr) (o:Nat),yt w b o l ↔ Row 4 (zo w) b o l
 | [],o=>by simp [yt,Row]
 | e::l,o=>by
  rw [yt,exprsAt_row w b l (o+4)]
  constructor
  ·rintro ⟨h,hr⟩ j x hx
   cases j with
   | zero=>simp at hx;subst hx;simpa using h
   | succ j=>
    have:=hr j x (by simpa using hx)
    rwa [show o+4+j * 4=o+(j+1) * 4 by omega] at this
  ·intro h
   refine ⟨by simpa using h 0 e rfl,fun j x hx=>?_⟩
   have:=h (j+1) x (by simpa using hx)
   rwa [show o+(j+1) * 4=o+4+j * 4 by omega] at this
def zl (w:World) (e:Expr) (v:Value):Prop:=
 ∃ a c,v=.agg #[.int .i64 e.kind,.int .u64 e.num,.string e.name,.slice a e.args.length c]∧I64 e.kind∧U64 e.num∧e.name.size≤140737488351232∧Sl 4 (zo w) (.slice a e.args.length c) e.args
theorem zo.open {w:World} {b o:Nat} {e:Expr} (h:zo w b o e) :
  ∃ a c,w.cell? ⟨b,o,none⟩=some (.int .i64 e.kind)∧w.cell? ⟨b,o+1,none⟩=some (.int .u64 e.num)∧w.cell? ⟨b,o+2,none⟩=some (.string e.name) ∧
   w.cell? ⟨b,o+3,none⟩=some (.slice a e.args.length c)∧zl w e (.agg #[.int .i64 e.kind,.int .u64 e.num,.string e.name,.slice a e.args.length c]):=by
 obtain ⟨k,n,s,gk⟩:=e
 rw [zo] at h
 obtain ⟨h0,hk,h1,hn,h2,a,c,h3,hc,hl,hr⟩:=h
 refine ⟨a,c,h0,h1,h2.1,h3,a,c,rfl,hk,hn,h2.2,a,c,rfl,hc,hl,fun hne=>?_⟩
 obtain ⟨b',o',ha,hr'⟩:=hr hne
 exact ⟨b',o',ha,(exprsAt_row w b' gk o').1 hr'⟩
theorem zo.mk {w:World} {b o:Nat} {e:Expr} {a:Option Addr} {c:Nat} (h0:w.cell? ⟨b,o,none⟩=some (.int .i64 e.kind)) (h1:w.cell? ⟨b,o+1,none⟩=some (.int .u64 e.num)) (h2:w.cell? ⟨b,o+2,none⟩=some (.string e.name))
  (h3:w.cell? ⟨b,o+3,none⟩=some (.slice a e.args.length c)) (hk:I64 e.kind) (hn:U64 e.num) (hs:e.name.size≤140737488351232) (hr:Sl 4 (zo w) (.slice a e.args.length c) e.args):zo w b o e:=by
 obtain ⟨k,n,s,gk⟩:=e
 rw [zo]
 obtain ⟨a',c',he,hc,hl,hr⟩:=hr
 simp only [Value.slice.injEq] at he
 obtain ⟨rfl,_,rfl⟩:=he
 refine ⟨h0,hk,h1,hn,⟨h2,hs⟩,a,c,h3,hc,hl,fun hne=>?_⟩
 obtain ⟨b',o',ha,hr'⟩:=hr hne
 exact ⟨b',o',ha,(exprsAt_row w b' gk o').2 hr'⟩
mutual
theorem zo.below {w w1:World} (hb:Below w.heap.size w w1):∀ (e:Expr) (b o:Nat),zo w b o e→zo w1 b o e
 | ⟨k,n,s,gk⟩,b,o,h=>by
  rw [zo] at h ⊢
  obtain ⟨h0,hk,h1,hn,h2,a,c,h3,hc,hl,hr⟩:=h
  refine ⟨h0.below hb,hk,h1.below hb,hn,h2.below hb,a,c,jb hb h3,hc,hl,fun hne=>?_⟩
  obtain ⟨b',o',ha,hr'⟩:=hr hne
  exact ⟨b',o',ha,yt.below hb gk b' o' hr'⟩
theorem yt.below {w w1:World} (hb:Below w.heap.size w w1):∀ (l:List Expr) (b o:Nat),yt w b o l→yt w1 b o l
 | [],_,_,_=>by rw [yt];trivial
 | e::l,b,o,h=>by
  rw [yt] at h ⊢
  exact ⟨zo.below hb e b o h.1,yt.below hb l b (o+4) h.2⟩
end
theorem zl.below {w w1:World} {e:Expr} {v:Value} (h:zl w e v) (hb:Below w.heap.size w w1):zl w1 e v:=by
 obtain ⟨a,c,h1,h2,h3,h4,h5⟩:=h
 exact ⟨a,c,h1,h2,h3,h4,h5.imp (fun b o x _ hx=>zo.below hb x b o hx)⟩
mutual
def j9 (w:World) (b o:Nat):Stmt→Prop
 | ⟨k,s,n,gk,t,e⟩=>IntAt w .i64 b o k∧I64 k∧StrAt w b (o+1) s∧IntAt w .i64 b (o+2) n∧I64 n ∧
   (∃ v,w.cell? ⟨b,o+3,none⟩=some v∧Sl 4 (zo w) v gk) ∧
   (∃ a c,w.cell? ⟨b,o+4,none⟩=some (.slice a t.length c)∧t.length≤c∧t.length≤140737488351232∧(t≠[]→∃ b' o',a=some ⟨b',o',none⟩∧vz w b' o' t)) ∧
   (∃ a c,w.cell? ⟨b,o+5,none⟩=some (.slice a e.length c)∧e.length≤c∧e.length≤140737488351232∧(e≠[]→∃ b' o',a=some ⟨b',o',none⟩∧vz w b' o' e))
def vz (w:World) (b o:Nat):List Stmt→Prop
 | []=>True
 | e::es=>j9 w b o e∧vz w b (o+6) es
end
theorem stmtsAt_row (w:World) (b:Nat):∀ (l:List Stmt) (o:Nat),vz w b o l ↔ Row 6 (j9 w) b o l
 | [],o=>by simp [vz,Row]
 | e::l,o=>by
  rw [vz,stmtsAt_row w b l (o+6)]
  constructor
  ·rintro ⟨h,hr⟩ j x hx
   cases j with
   | zero=>simp at hx;subst hx;simpa using h
   | succ j=>
    have:=hr j x (by simpa using hx)
    rwa [show o+6+j * 6=o+(j+1) * 6 by omega] at this
  ·intro h
   refine ⟨by simpa using h 0 e rfl,fun j x hx=>?_⟩
   have:=h (j+1) x (by simpa using hx)
   rwa [show o+(j+1) * 6=o+6+j * 6 by omega] at this
def yn (w:World) (x:Stmt) (v:Value):Prop:=
 ∃ a0 c0 a1 c1 a2 c2,v=.agg #[.int .i64 x.kind,.string x.name,.int .i64 x.num,.slice a0 x.args.length c0,.slice a1 x.thn.length c1,.slice a2 x.els.length c2]∧I64 x.kind∧I64 x.num∧x.name.size≤140737488351232 ∧
  Sl 4 (zo w) (.slice a0 x.args.length c0) x.args∧Sl 6 (j9 w) (.slice a1 x.thn.length c1) x.thn∧Sl 6 (j9 w) (.slice a2 x.els.length c2) x.els
theorem j9.open {w:World} {b o:Nat} {x:Stmt} (h:j9 w b o x) :
  ∃ a0 c0 a1 c1 a2 c2,w.cell? ⟨b,o,none⟩=some (.int .i64 x.kind)∧w.cell? ⟨b,o+1,none⟩=some (.string x.name)∧w.cell? ⟨b,o+2,none⟩=some (.int .i64 x.num) ∧
   w.cell? ⟨b,o+3,none⟩=some (.slice a0 x.args.length c0)∧w.cell? ⟨b,o+4,none⟩=some (.slice a1 x.thn.length c1)∧w.cell? ⟨b,o+5,none⟩=some (.slice a2 x.els.length c2) ∧
   yn w x (.agg #[.int .i64 x.kind,.string x.name,.int .i64 x.num,.slice a0 x.args.length c0,.slice a1 x.thn.length c1,.slice a2 x.els.length c2]):=by
 obtain ⟨k,s,n,gk,t,e⟩:=x
 rw [j9] at h
 obtain ⟨h0,hk,h1,h2,hn,⟨v,h3,hv⟩,⟨a1,c1,h4,hc1,hl1,hr1⟩,⟨a2,c2,h5,hc2,hl2,hr2⟩⟩:=h
 have hv':=hv
 obtain ⟨a0,c0,rfl,_⟩:=hv
 refine ⟨a0,c0,a1,c1,a2,c2,h0,h1.1,h2,h3,h4,h5,a0,c0,a1,c1,a2,c2,rfl,hk,hn,h1.2,hv',⟨a1,c1,rfl,hc1,hl1,fun hne=>?_⟩,⟨a2,c2,rfl,hc2,hl2,fun hne=>?_⟩⟩
 ·obtain ⟨b',o',ha,hr'⟩:=hr1 hne
  exact ⟨b',o',ha,(stmtsAt_row w b' t o').1 hr'⟩
 ·obtain ⟨b',o',ha,hr'⟩:=hr2 hne
  exact ⟨b',o',ha,(stmtsAt_row w b' e o').1 hr'⟩
theorem j9.mk {w:World} {b o:Nat} {x:Stmt} {a0 a1 a2:Option Addr} {c0 c1 c2:Nat} (h0:w.cell? ⟨b,o,none⟩=some (.int .i64 x.kind)) (h1:w.cell? ⟨b,o+1,none⟩=some (.string x.name)) (h2:w.cell? ⟨b,o+2,none⟩=some (.int .i64 x.num))
  (h3:w.cell? ⟨b,o+3,none⟩=some (.slice a0 x.args.length c0)) (h4:w.cell? ⟨b,o+4,none⟩=some (.slice a1 x.thn.length c1)) (h5:w.cell? ⟨b,o+5,none⟩=some (.slice a2 x.els.length c2)) (hk:I64 x.kind) (hn:I64 x.num) (hs:x.name.size≤140737488351232)
  (hr0:Sl 4 (zo w) (.slice a0 x.args.length c0) x.args) (hr1:Sl 6 (j9 w) (.slice a1 x.thn.length c1) x.thn) (hr2:Sl 6 (j9 w) (.slice a2 x.els.length c2) x.els):j9 w b o x:=by
 obtain ⟨k,s,n,gk,t,e⟩:=x
 rw [j9]
 obtain ⟨a1',c1',he1,hc1,hl1,hr1⟩:=hr1
 obtain ⟨a2',c2',he2,hc2,hl2,hr2⟩:=hr2
 simp only [Value.slice.injEq] at he1 he2
 obtain ⟨rfl,_,rfl⟩:=he1
 obtain ⟨rfl,_,rfl⟩:=he2
 refine ⟨h0,hk,⟨h1,hs⟩,h2,hn,⟨_,h3,hr0⟩,⟨a1,c1,h4,hc1,hl1,fun hne=>?_⟩,⟨a2,c2,h5,hc2,hl2,fun hne=>?_⟩⟩
 ·obtain ⟨b',o',ha,hr'⟩:=hr1 hne
  exact ⟨b',o',ha,(stmtsAt_row w b' t o').2 hr'⟩
 ·obtain ⟨b',o',ha,hr'⟩:=hr2 hne
  exact ⟨b',o',ha,(stmtsAt_row w b' e o').2 hr'⟩
mutual
theorem j9.below {w w1:World} (hb:Below w.heap.size w w1):∀ (x:Stmt) (b o:Nat),j9 w b o x→j9 w1 b o x
 | ⟨k,s,n,gk,t,e⟩,b,o,h=>by
  rw [j9] at h ⊢
  obtain ⟨h0,hk,h1,h2,hn,⟨v,h3,hv⟩,⟨a1,c1,h4,hc1,hl1,hr1⟩,⟨a2,c2,h5,hc2,hl2,hr2⟩⟩:=h
  refine ⟨h0.below hb,hk,h1.below hb,h2.below hb,hn,⟨v,jb hb h3,hv.imp (fun b o x _ hx=>zo.below hb x b o hx)⟩,⟨a1,c1,jb hb h4,hc1,hl1,fun hne=>?_⟩,⟨a2,c2,jb hb h5,hc2,hl2,fun hne=>?_⟩⟩
  ·obtain ⟨b',o',ha,hr'⟩:=hr1 hne
   exact ⟨b',o',ha,vz.below hb t b' o' hr'⟩
  ·obtain ⟨b',o',ha,hr'⟩:=hr2 hne
   exact ⟨b',o',ha,vz.below hb e b' o' hr'⟩
theorem vz.below {w w1:World} (hb:Below w.heap.size w w1):∀ (l:List Stmt) (b o:Nat),vz w b o l→vz w1 b o l
 | [],_,_,_=>by rw [vz];trivial
 | e::l,b,o,h=>by
  rw [vz] at h ⊢
  exact ⟨j9.below hb e b o h.1,vz.below hb l b (o+6) h.2⟩
end
theorem yn.below {w w1:World} {x:Stmt} {v:Value} (h:yn w x v) (hb:Below w.heap.size w w1):yn w1 x v:=by
 obtain ⟨a0,c0,a1,c1,a2,c2,h1,h2,h3,h4,h5,h6,h7⟩:=h
 exact ⟨a0,c0,a1,c1,a2,c2,h1,h2,h3,h4,h5.imp (fun b o x _ hx=>zo.below hb x b o hx),h6.imp (fun b o x _ hx=>j9.below hb x b o hx),h7.imp (fun b o x _ hx=>j9.below hb x b o hx)⟩
def yr (w:World) (b o:Nat) (x:z8):Prop:=StrAt w b o x.name∧IntAt w .i64 b (o+1) x.kind∧IntAt w .i64 b (o+2) x.len∧I64 x.kind∧I64 x.len
def ParamIs (_:World) (x:z8) (v:Value):Prop:=v=.agg #[.string x.name,.int .i64 x.kind,.int .i64 x.len]∧x.name.size≤140737488351232∧I64 x.kind∧I64 x.len
theorem yr.below {w w1:World} (hb:Below w.heap.size w w1) (x:z8) (b o:Nat) (h:yr w b o x):yr w1 b o x:=⟨h.1.below hb,h.2.1.below hb,h.2.2.1.below hb,h.2.2.2⟩
def ArrAt (w:World) (b o:Nat) (x:Arr):Prop:=StrAt w b o x.name∧IntAt w .i64 b (o+1) x.len∧I64 x.len
def ArrIs (_:World) (x:Arr) (v:Value):Prop:=v=.agg #[.string x.name,.int .i64 x.len]∧x.name.size≤140737488351232∧I64 x.len
theorem ArrAt.below {w w1:World} (hb:Below w.heap.size w w1) (x:Arr) (b o:Nat) (h:ArrAt w b o x):ArrAt w1 b o x:=⟨h.1.below hb,h.2.1.below hb,h.2.2⟩
def BoolAt (w:World) (b o:Nat) (x:Bool):Prop:=w.cell? ⟨b,o,none⟩=some (.bool x)
def FunAt (w:World) (b o:Nat) (f:Fun):Prop:=
 StrAt w b o f.name∧BoolAt w b (o+1) f.out∧(∃ v,w.cell? ⟨b,o+2,none⟩=some v∧Sl 3 (yr w) v f.params)∧(∃ v,w.cell? ⟨b,o+3,none⟩=some v∧Sl 6 (j9 w) v f.body)
def FunIs (w:World) (f:Fun) (v:Value):Prop:=
 ∃ a0 c0 a1 c1,v=.agg #[.string f.name,.bool f.out,.slice a0 f.params.length c0,.slice a1 f.body.length c1]∧f.name.size≤140737488351232 ∧
  Sl 3 (yr w) (.slice a0 f.params.length c0) f.params∧Sl 6 (j9 w) (.slice a1 f.body.length c1) f.body
theorem FunAt.open {w:World} {b o:Nat} {f:Fun} (h:FunAt w b o f) :
  ∃ a0 c0 a1 c1,w.cell? ⟨b,o,none⟩=some (.string f.name)∧w.cell? ⟨b,o+1,none⟩=some (.bool f.out)∧w.cell? ⟨b,o+2,none⟩=some (.slice a0 f.params.length c0)∧w.cell? ⟨b,o+3,none⟩=some (.slice a1 f.body.length c1) ∧
   FunIs w f (.agg #[.string f.name,.bool f.out,.slice a0 f.params.length c0,.slice a1 f.body.length c1]):=by
 obtain ⟨h0,h1,⟨v,h2,hv⟩,⟨u,h3,hu⟩⟩:=h
 have hv':=hv
 have hu':=hu
 obtain ⟨a0,c0,rfl,_⟩:=hv
 obtain ⟨a1,c1,rfl,_⟩:=hu
 exact ⟨a0,c0,a1,c1,h0.1,h1,h2,h3,a0,c0,a1,c1,rfl,h0.2,hv',hu'⟩
theorem FunAt.below {w w1:World} (hb:Below w.heap.size w w1) (f:Fun) (b o:Nat) (h:FunAt w b o f):FunAt w1 b o f:=by
 obtain ⟨h0,h1,⟨v,h2,hv⟩,⟨u,h3,hu⟩⟩:=h
 exact ⟨h0.below hb,jb hb h1,⟨v,jb hb h2,hv.imp (fun b o x _ hx=>yr.below hb x b o hx)⟩,⟨u,jb hb h3,hu.imp (fun b o x _ hx=>j9.below hb x b o hx)⟩⟩
theorem FunIs.below {w w1:World} {f:Fun} {v:Value} (h:FunIs w f v) (hb:Below w.heap.size w w1):FunIs w1 f v:=by
 obtain ⟨a0,c0,a1,c1,h1,h2,h3,h4⟩:=h
 exact ⟨a0,c0,a1,c1,h1,h2,h3.imp (fun b o x _ hx=>yr.below hb x b o hx),h4.imp (fun b o x _ hx=>j9.below hb x b o hx)⟩
def kn (w:World) (p:Src) (v:Value):Prop:=
 ∃ a0 c0 a1 c1,v=.agg #[.slice a0 p.secrets.length c0,.slice a1 p.funcs.length c1]∧Sl 2 (ArrAt w) (.slice a0 p.secrets.length c0) p.secrets∧Sl 4 (FunAt w) (.slice a1 p.funcs.length c1) p.funcs
theorem kn.below {w w1:World} {p:Src} {v:Value} (h:kn w p v) (hb:Below w.heap.size w w1):kn w1 p v:=by
 obtain ⟨a0,c0,a1,c1,h1,h2,h3⟩:=h
 exact ⟨a0,c0,a1,c1,h1,h2.imp (fun b o x _ hx=>ArrAt.below hb x b o hx),h3.imp (fun b o x _ hx=>FunAt.below hb x b o hx)⟩
end
section
open Go.RowKit
structure Kept (M:List Nat) (w w':World):Prop where
 os:w'.os=w.os
 tape:w'.tape=w.tape
 output:w'.output=w.output
 size:w.heap.size≤w'.heap.size
 block:∀ k,k<w.heap.size→k ∉ M→w'.heap[k]?=w.heap[k]?
theorem Kept.refl (M:List Nat) (w:World):Kept M w w:=⟨rfl,rfl,rfl,wo _,fun _ _ _=>rfl⟩
theorem Kept.next {M M2:List Nat} {a b c:World} (h:Kept M a b) (k:Kept M2 b c) (hM:∀ i∈M2,i∈M∨a.heap.size≤i):Kept M a c:=
 ⟨k.os.trans h.os,k.tape.trans h.tape,k.output.trans h.output,wx h.size k.size,fun i hi hn=>(k.block i (Nat.lt_of_lt_of_le hi h.size) (fun hm=>by
  rcases hM i hm with h1|h1
  ·exact hn h1
  ·omega)).trans (h.block i hi hn)⟩
theorem Kept.trans {M:List Nat} {a b c:World} (h:Kept M a b) (k:Kept M b c):Kept M a c:=h.next k fun _ hi=>.inl hi
theorem Kept.mono {M M':List Nat} {w w':World} (h:Kept M w w') (hM:∀ i∈M,i∈M'):Kept M' w w':=⟨h.os,h.tape,h.output,h.size,fun i hi hn=>h.block i hi fun hm=>hn (hM i hm)⟩
theorem jd {M:List Nat} {w w':World} (h:Below w.heap.size w w'):Kept M w w':=⟨h.os,h.tape,h.output,h.size,fun i hi _=>h.block i hi⟩
theorem kept_grown {M:List Nat} {w w':World} {row:Option Nat} (h:w.grownBy w' row) (hr:∀ b,row=some b→b∈M):Kept M w w':=
 ⟨h.os,h.tape,h.output,h.size,fun i hi hn=>h.block i hi fun e=>hn (hr i e.symm)⟩
theorem Kept.below {M:List Nat} {w w':World} {B:Nat} (h:Kept M w w') (hB:B≤w.heap.size) (hM:∀ i∈M,B≤i):Below B w w':=
 ⟨h.os,h.tape,h.output,h.size,fun i hi=>h.block i (by omega) fun hm=>by have:=hM i hm;omega⟩
theorem Kept.nil {w w':World} (h:Kept [] w w'):Below w.heap.size w w':=h.below (wo _) (fun i hi=>by cases hi)
theorem Kept.alloc {M:List Nat} {a w:World} (h:Kept M a w) (o:Obj):Kept M a (w.alloc o):=h.trans (jd ((wu _ _).alloc (wo _) o))
theorem Kept.setCell {M:List Nat} {a w:World} (h:Kept M a w) {p:Addr} (hp:p.block∈M∨a.heap.size≤p.block) (u:Value):Kept M a (w.setCell p u):=by
 refine h.next (M2:=[p.block]) ⟨rfl,rfl,rfl,by simp [World.setCell],fun k hk hn=>Below.heap_setCell _ _ _ _ (by simpa using hn)⟩ (fun i hi=>?_)
 simp only [wy] at hi
 subst hi
 exact hp
theorem Kept.drew {M:List Nat} {a w:World} (h:Kept M a w):Kept M a w.drew:=⟨h.os,h.tape,h.output,h.size,h.block⟩
theorem Kept.cell {M:List Nat} {w w':World} (h:Kept M w w') {a:Addr} {v:Value} (hc:w.cell? a=some v) (ha:a.block ∉ M):w'.cell? a=some v:=
 (World.cell?_of_block (w:=w) (h.block a.block (k9 w a hc) ha)).trans hc
theorem j5.keptM {K:Type} {κ:K→Value} {M:List Nat} {w w':World} {b:Nat} {l:List (K×Value)} (h:j5 κ w b l) (hk:Kept M w w') (hb:b ∉ M):j5 κ w' b l:=h.block (hk.block b h.lt hb)
section
variable {K V W:Type} [BEq K] [LawfulBEq K]
omit [LawfulBEq K] in
theorem ka (φ:V→W) (l:List (K×V)) (k:K):aget (l.map fun x=>(x.1,φ x.2)) k=(aget l k).map φ:=by
 induction l with
 | nil=>rfl
 | cons x l ih=>
  obtain ⟨a,u⟩:=x
  simp only [List.map_cons,aget,ih]
  split<;>rfl
omit [LawfulBEq K] in
theorem kz (φ:V→W) (l:List (K×V)) (k:K) (v:V):aput (l.map fun x=>(x.1,φ x.2)) k (φ v)=(aput l k v).map fun x=>(x.1,φ x.2):=by
 induction l with
 | nil=>rfl
 | cons x l ih=>
  obtain ⟨a,u⟩:=x
  simp only [List.map_cons,aput,ih]
  split<;>rfl
end
def MapB (w:World) (b:Nat) (l:List (ByteArray×Bool)):Prop:=j5 Value.string w b (l.map fun x=>(x.1,Value.bool x.2))
def MapN (w:World) (b:Nat) (l:List (ByteArray×Int)):Prop:=j5 Value.string w b (l.map fun x=>(x.1,Value.int .i64 x.2))
def MapT (w:World) (b:Nat) (l:List (Int×Bool)):Prop:=j5 (Value.int .i64) w b (l.map fun x=>(x.1,Value.bool x.2))
end
section
open Go.RowKit
def StepRel (P:Program) (ops fo:Array Oper) (Q:Exit→Act→World→Prop) (T:World→World→Prop) (w₀:World) (a₀:Act) (Post:Nat→Value→World→Prop) (Rel:Nat→Value→Nat→Value→Prop) (i:Nat) (o:Oper):Prop:=
 ∀ (a:Act) (w:World),T w₀ w→Frm fo a₀ a→(∀ (j:Nat) (x:Oper),ops[j]?=some x→(∃ e∈o.after,e.on=j∧Region.binds .any e=true)→Post j (left a x) w) →
  if Region.wanted o (yielded ops a.tmps) then o.wp P a w (fun a' w'=>∃ v,a'=a.put o.dst v∧T w w'∧Post i (if o.dst=none then undef else v) w'∧(∀ (j:Nat) (u:Value),j≠i→Post j u w→Rel i (if o.dst=none then undef else v) j u∧Rel j u i (if o.dst=none then undef else v))) Q
  else Post i undef w∧(∀ (j:Nat) (u:Value),j≠i→Post j u w→Rel i undef j u∧Rel j u i undef)
theorem wp_region_pairs {P:Program} {ops:Array Oper} {Q:Exit→Act→World→Prop} {id:Nat} {a₀:Act} {w:World} (hm:P.follows .mixedOrders=true) (T:World→World→Prop) (hrefl:∀ x,T x x) (htrans:∀ x y z,T x y→T y z→T x z) (hdrew:T w w.drew)
  (Post:Nat→Value→World→Prop) (Rel:Nat→Value→Nat→Value→Prop) (hmono:∀ i v x y,Post i v x→T x y→Post i v y)
  (fit:qz ops a₀.tmps.size=true) (m:Nat) (hms:m<ops.size) (hneeds:vp ops m=true)
  (step:∀ (i:Nat) (o:Oper),i<m→ops[i]?=some o→StepRel P ops (ops.toList.take m).toArray Q T w a₀ Post Rel i o)
  (tail:∀ (a:Act) (w':World),T w w'→Frm (ops.toList.take m).toArray a₀ a→(∀ (i:Nat) (x:Oper),i<m→ops[i]?=some x→Post i (left a x) w')→(∀ (i j:Nat) (x y:Oper),i<m→j<m→i≠j→ops[i]?=some x→ops[j]?=some y→Rel i (left a x) j (left a y))→wpList P ops Q (ops.toList.drop m) a w') :
  (Code.region id ops true).wp P Q a₀ w:=by
 have F:=fit_of fit
 have hfo:∀ (i:Nat) (x:Oper),i<m→ops[i]?=some x→(ops.toList.take m).toArray[i]?=some x:=by
  intro i x hne hi
  have:=(wl.1 hi).1
  rw [List.getElem?_toArray,List.getElem?_take,if_pos (by omega)]
  simpa using hi
 refine wp_region_any hm ?_
 have key:∀ (fuel:Nat) (listed:Array Bool) (a:Act) (x:World),listed.size=ops.size→listed.toList.count false≤fuel→ops.size - m≤fuel→T w x→Frm (ops.toList.take m).toArray a₀ a→(∀ i,m≤i→i<ops.size→listed[i]?=some false) →
   (∀ (i:Nat) (o:Oper),ops[i]?=some o→listed[i]?=some true→∀ e∈o.after,Region.binds .any e=true→listed[e.on]?=some true) →
   (∀ (i:Nat) (o:Oper),ops[i]?=some o→listed[i]?=some true→Post i (left a o) x)→(∀ (i j:Nat) (o o':Oper),i≠j→ops[i]?=some o→ops[j]?=some o'→listed[i]?=some true→listed[j]?=some true→Rel i (left a o) j (left a o'))→wpAny P .any ops Q fuel listed a x:=by
  intro fuel
  induction fuel with
  | zero=>intro listed a x hsz hc hfu;omega
  | succ fuel ih=>
   intro listed a x hsz hc hfu hT hF hmf hcl hP hR
   by_cases hall:∀ i,i<m→listed[i]?=some true
   ·exact wpAny_rest F.on m hneeds (fuel+1) m listed a x (wo _) (by omega) (by omega) hsz hall hmf (tail a x hT hF (fun i y hi hy=>hP i y hy (hall i hi)) (fun i j y z hi hj hne hy hz=>hR i j y z hne hy hz (hall i hi) (hall j hj)))
   have hready:∀ i,i<ops.size→listed[i]?=some false→(∀ j,j<i→listed[j]?=some true)→i∈Region.ready .any ops listed:=by
    intro i hi hf hall
    simp only [Region.ready,List.mem_filter,List.mem_range]
    refine ⟨hi,?_⟩
    obtain ⟨o,ho⟩:∃ o,ops[i]?=some o:=⟨_,wm hi⟩
    simp only [wn,hf,ho,Option.map_some,Option.getD_some,Bool.not_false,Bool.true_and]
    rw [Array.all_eq_true_iff_forall_mem]
    intro e he
    cases hbd:Region.binds .any e with
    | false=>rfl
    | true=>
     have:=hall e.on (F.on i o e ho he hbd)
     simp [this]
   refine ⟨fun hr=>?_,fun i hi=>?_⟩
   ·exfalso
    refine hall fun i=>?_
    induction i using Nat.strongRecOn with
    | _ i ihi=>
     intro hi
     have hlt:i<listed.size:=by omega
     cases hb:listed[i] with
     | true=>rw [wm hlt,hb]
     | false=>
      have:=hready i (by omega) (by rw [wm hlt,hb]) (fun j hj=>ihi j hj (by omega))
      rw [hr] at this;cases this
   ·simp only [Region.ready,List.mem_filter,List.mem_range] at hi
    obtain ⟨hilt,hi2⟩:=hi
    obtain ⟨o,ho⟩:∃ o,ops[i]?=some o:=⟨_,wm hilt⟩
    have hil:i<listed.size:=by omega
    simp only [wn,wm hil,ho,Option.map_some,Option.getD_some,Bool.and_eq_true,Bool.not_eq_true',Array.all_eq_true_iff_forall_mem] at hi2
    obtain ⟨hib,hia⟩:=hi2
    have hdep:∀ e∈o.after,Region.binds .any e=true→listed[e.on]?=some true:=by
     intro e he hbd
     have h5:=hia e he
     have hlt:e.on<listed.size:=by have:=F.on i o e ho he hbd;omega
     rw [wm hlt] at h5 ⊢
     simpa [hbd] using h5
    have him:i<m:=by
     rcases Nat.lt_or_ge i m with h|h
     ·exact h
     ·exfalso
      refine hall fun k hk=>?_
      have hcl':∀ (k:Nat) (y:Oper),ops[k]?=some y→(k=i∨listed[k]?=some true)→∀ e∈y.after,Region.binds .any e=true→listed[e.on]?=some true:=by
       intro k y hk hor
       rcases hor with rfl|hor
       ·obtain rfl:y=o:=by rw [ho] at hk;exact (Option.some.inj hk).symm
        exact hdep
       ·exact hcl k y hk hor
      have hmem:=y6 hcl' 12 [i] (fun k hk=>.inl (wy.1 hk))
      simp only [vp,List.all_eq_true,List.mem_range,Bool.or_eq_true,decide_eq_true_eq,List.contains_iff_mem] at hneeds
      have h6:=((hneeds i hilt).resolve_left (by omega)) k (by omega)
      exact (hmem k h6).resolve_left (by omega)
    have hst:=step i o him ho a x hT hF (fun j y hj he=>hP j y hj (by
     obtain ⟨e,he1,he2,he3⟩:=he
     subst he2
     exact hdep e he1 he3))
    have hcount:(listed.setIfInBounds i true).toList.count false≤fuel:=by
     have:=count_set listed.toList i (by simp [hil,hib])
     simp only [Array.toList_setIfInBounds]
     omega
    have hfu2:ops.size - m≤fuel:=by
     have h1:(listed.setIfInBounds i true).toList.drop m=List.replicate (ops.size - m) false:=by
      apply List.ext_getElem?
      intro k
      rw [List.getElem?_drop,List.getElem?_replicate]
      by_cases hk:k<ops.size - m
      ·rw [if_pos hk]
       have:=hmf (m+k) (by omega) (by omega)
       rw [Array.getElem?_toList,Array.getElem?_setIfInBounds_ne (by omega)]
       exact this
      ·rw [if_neg hk]
       apply List.getElem?_eq_none
       simp [hsz];omega
     have h2:=List.take_append_drop m (listed.setIfInBounds i true).toList
     have h3:((listed.setIfInBounds i true).toList.take m++(listed.setIfInBounds i true).toList.drop m).count false=(listed.setIfInBounds i true).toList.count false:=by rw [h2]
     rw [List.count_append,h1,List.count_replicate] at h3
     simp at h3
     simp only [Array.toList_setIfInBounds] at hcount
     omega
    have hnew:∀ (v:Value) (x':World),T x x'→Post i (if o.dst=none then undef else v) x'→(∀ (j:Nat) (u:Value),j≠i→Post j u x→Rel i (if o.dst=none then undef else v) j u∧Rel j u i (if o.dst=none then undef else v))→wpAny P .any ops Q fuel (listed.setIfInBounds i true) (a.put o.dst v) x':=by
     intro v x' hT' hp hr
     refine ih _ _ _ (by simp [hsz]) hcount hfu2 (htrans _ _ _ hT hT') (hF.put (i:=i) (hfo i o him ho) v) ?_ ?_ ?_ ?_
     ·intro k hk hk2
      rw [Array.getElem?_setIfInBounds_ne (by omega)];exact hmf k hk hk2
     ·intro j y hj hlj e he hbd
      have hset:∀ k:Nat,listed[k]?=some true→(listed.setIfInBounds i true)[k]?=some true:=by
       intro k hk
       by_cases hki:k=i
       ·subst hki;simp [hil]
       ·rw [Array.getElem?_setIfInBounds_ne (Ne.symm hki)];exact hk
      by_cases hji:j=i
      ·subst hji
       obtain rfl:y=o:=by rw [ho] at hj;exact (Option.some.inj hj).symm
       exact hset _ (hdep e he hbd)
      ·rw [Array.getElem?_setIfInBounds_ne (Ne.symm hji)] at hlj
       exact hset _ (hcl j y hj hlj e he hbd)
     ·intro j y hj hlj
      by_cases hji:j=i
      ·subst hji
       obtain rfl:y=o:=by rw [ho] at hj;exact (Option.some.inj hj).symm
       cases hd:y.dst with
       | none=>simpa [left,hd] using hp
       | some d=>
        have hlt:=F.lt j y d hj hd
        simp only [left,hd]
        rw [qp _ _ _ (by rw [hF.size];exact hlt)]
        simpa [hd] using hp
      ·rw [Array.getElem?_setIfInBounds_ne (Ne.symm hji)] at hlj
       have hold:=hmono _ _ _ _ (hP j y hj hlj) hT'
       have he:left (a.put o.dst v) y=left a y:=by
        unfold left
        cases hd:y.dst with
        | none=>rfl
        | some d=>
         cases hd':o.dst with
         | none=>rfl
         | some d'=>
          simp only
          exact vn _ _ _ _ (fun e=>hji (F.own j i y o d hj ho hd (e ▸ hd')))
       rwa [he]
     ·intro p q y z hpq hy hz hlp hlq
      have hleft:∀ (k:Nat) (u:Oper),ops[k]?=some u→k≠i→left (a.put o.dst v) u=left a u:=by
       intro k u hk hki
       unfold left
       cases hd:u.dst with
       | none=>rfl
       | some d=>
        cases hd':o.dst with
        | none=>rfl
        | some d'=>
         simp only
         exact vn _ _ _ _ (fun e=>hki (F.own k i u o d hk ho hd (e ▸ hd')))
      have hself:left (a.put o.dst v) o=if o.dst=none then undef else v:=by
       unfold left
       cases hd:o.dst with
       | none=>rfl
       | some d=>
        have hlt:=F.lt i o d ho hd
        simp only
        rw [qp _ _ _ (by rw [hF.size];exact hlt)]
        simp
      have hold:∀ k:Nat,k≠i→(listed.setIfInBounds i true)[k]?=some true→listed[k]?=some true:=by
       intro k hk h
       rwa [Array.getElem?_setIfInBounds_ne (Ne.symm hk)] at h
      by_cases hpi:p=i
      ·subst hpi
       obtain rfl:y=o:=by rw [ho] at hy;exact (Option.some.inj hy).symm
       rw [hself,hleft q z hz (Ne.symm hpq)]
       exact (hr q _ (Ne.symm hpq) (hP q z hz (hold q (Ne.symm hpq) hlq))).1
      ·by_cases hqi:q=i
       ·subst hqi
        obtain rfl:z=o:=by rw [ho] at hz;exact (Option.some.inj hz).symm
        rw [hself,hleft p y hy hpi]
        exact (hr p _ hpi (hP p y hy (hold p hpi hlp))).2
       ·rw [hleft p y hy hpi,hleft q z hz hqi]
        exact hR p q y z hpq hy hz (hold p hpi hlp) (hold q hqi hlq)
    simp only [wpOp,ho]
    split
    ·rename_i hw
     simp only [hw,if_true] at hst
     refine .inl (Oper.wp_mono ?_ hst)
     rintro a' x' ⟨v,rfl,hT',hp,hr⟩
     exact hnew v x' hT' hp hr
    ·rename_i hw
     simp only [hw] at hst
     exact hnew undef x (hrefl x) (by split<;>exact hst.1) (by split<;>exact hst.2)
 refine key _ _ _ _ (by simp) ?_ ?_ hdrew ⟨rfl,rfl,fun _ _=>rfl⟩ ?_ ?_ ?_ ?_
 ·simp
 ·omega
 ·intro i hi hi2
  rw [Array.getElem?_replicate,if_pos hi2]
 ·intro i o _ h
  rw [Array.getElem?_replicate] at h
  split at h<;>simp at h
 ·intro i o _ h
  rw [Array.getElem?_replicate] at h
  split at h<;>simp at h
 ·intro i j o o' _ _ _ h
  rw [Array.getElem?_replicate] at h
  split at h<;>simp at h
def blk:Value→Option Nat
 | .map (some b)=>some b
 | .pointer (some a)=>some a.block
 | .slice (some a) _ _=>some a.block
 | _=>none
def StepN (P:Program) (ops fo:Array Oper) (Q:Exit→Act→World→Prop) (L:List MP) (w₀:World) (a₀:Act) (i:Nat) (o:Oper):Prop:=
 ∀ (a:Act) (w:World),Below w₀.heap.size w₀ w→Frm fo a₀ a→DepsB L ops a w o.after.toList →
  o.guard=none∧o.wp P a w (fun a' w'=>∃ v,a'=a.put o.dst v∧Below w.heap.size w w'∧y7 L i (if o.dst=none then undef else v) w'∧∀ b,blk (if o.dst=none then undef else v)=some b→w.heap.size≤b) Q
def StepsN (P:Program) (ops fo:Array Oper) (Q:Exit→Act→World→Prop) (L:List MP) (N:List Nat) (w₀:World) (a₀:Act):Nat→List Oper→Prop
 | _,[]=>True
 | i,o::l=>(match N.contains i with|true=>StepN P ops fo Q L w₀ a₀ i o|false=>StepB P ops fo Q L w₀ a₀ i o)∧StepsN P ops fo Q L N w₀ a₀ (i+1) l
theorem stepsN_at {P:Program} {ops fo:Array Oper} {Q:Exit→Act→World→Prop} {L:List MP} {N:List Nat} {w₀:World} {a₀:Act}:∀ (l:List Oper) (k:Nat),StepsN P ops fo Q L N w₀ a₀ k l→∀ (i:Nat) (o:Oper),l[i]?=some o →
  (match N.contains (k+i) with|true=>StepN P ops fo Q L w₀ a₀ (k+i) o|false=>StepB P ops fo Q L w₀ a₀ (k+i) o)
 | [],_,_,i,o,h=>by simp at h
 | x::l,k,hs,i,o,h=>by
  cases i with
  | zero=>simp at h;subst h;exact hs.1
  | succ i=>
   have:=stepsN_at l (k+1) hs.2 i o (by simpa using h)
   rwa [show k+1+i=k+(i+1) by omega] at this
theorem wp_region_list_news {P:Program} {ops:Array Oper} {Q:Exit→Act→World→Prop} {id:Nat} {a₀:Act} {w:World} (hm:P.follows .mixedOrders=true) (L:List MP) (N:List Nat) (hN:∀ j∈N,∀ u x b,y7 L j u x→blk u=some b→b<x.heap.size) (fit:qz ops a₀.tmps.size=true)
  (m:Nat) (hms:m<ops.size) (hneeds:vp ops m=true) (rest:List Oper) (hrest:ops.toList.drop m=rest)
  (steps:StepsN P ops (ops.toList.take m).toArray Q L N w a₀ 0 (ops.toList.take m))
  (tail:∀ (a:Act) (w':World),Below w.heap.size w w'→Frm (ops.toList.take m).toArray a₀ a→FinB L a w' 0 (ops.toList.take m)→(∀ (i j:Nat) (x y:Oper),i∈N→j∈N→i<m→j<m→i≠j→ops[i]?=some x→ops[j]?=some y→∀ b,blk (left a x)=some b→blk (left a y)≠some b)→wpList P ops Q rest a w'):(Code.region id ops true).wp P Q a₀ w:=by
 have F:=fit_of fit
 have htake:∀ (i:Nat) (x:Oper),i<m→ops[i]?=some x→(ops.toList.take m)[i]?=some x:=by
  intro i x hne hi
  rw [List.getElem?_take,if_pos hne]
  simpa using hi
 refine wp_region_pairs hm (fun x y=>Below x.heap.size x y) (fun x=>wu _ _) (fun x y z h k=>h.trans (k.mono h.size)) ((wu _ _).drew) (y7 L) (fun i v j u=>i∈N→j∈N→∀ b,blk v=some b→blk u≠some b) (fun i v x y h k=>(L.getD i MP.any).mono v x y h k) fit m hms hneeds ?_ ?_
 ·intro i x hne hx a y hT hF hD
  have h:=stepsN_at (ops.toList.take m) 0 steps i x (htake i x hne hx)
  rw [Nat.zero_add] at h
  have hdep:=depsB_of (L:=L) (ops:=ops) (a:=a) (w:=y) x.after.toList (fun j z hj ⟨e,he,h1,h2⟩=>hD j z hj ⟨e,by simpa using he,h1,h2⟩) (fun e he hb=>by
   have h1:=F.on i x e hx (by simpa using he) hb
   have h2:=(wl.1 hx).1
   omega)
  cases hc:N.contains i with
  | true=>
   rw [hc] at h
   obtain ⟨hg,h⟩:=h a y hT hF hdep
   rw [if_pos (by simp [Region.wanted,hg])]
   refine Oper.wp_mono ?_ h
   rintro a' y' ⟨v,rfl,h1,h2,h3⟩
   refine ⟨v,rfl,h1,h2,fun j u hj hp=>⟨fun _ hjN b hb hu=>?_,fun hjN _ b hb hu=>?_⟩⟩
   ·have h4:=h3 b hb
    have h5:=hN j hjN u y b hp hu
    omega
   ·have h4:=h3 b hu
    have h5:=hN j hjN u y b hp hb
    omega
  | false=>
   rw [hc] at h
   have hni:¬ i∈N:=by
    intro hi
    rw [List.contains_iff_mem.2 hi] at hc
    cases hc
   have:=h a y hT hF hdep
   split
   ·rename_i hw
    simp only [hw,if_true] at this
    refine Oper.wp_mono ?_ this
    rintro a' y' ⟨v,rfl,h1,h2⟩
    exact ⟨v,rfl,h1,h2,fun j u hj hp=>⟨fun hi=>absurd hi hni,fun _ hi=>absurd hi hni⟩⟩
   ·rename_i hw
    simp only [hw] at this
    exact ⟨this,fun j u hj hp=>⟨fun hi=>absurd hi hni,fun _ hi=>absurd hi hni⟩⟩
 ·intro a w' hT hF hP hR
  rw [hrest]
  refine tail a w' hT hF (finB_of _ 0 (fun i y hy=>?_)) (fun i j x y hiN hjN hi hj hne hx hy=>hR i j x y hi hj hne hx hy hiN hjN)
  rw [Nat.zero_add]
  have hi:i<m:=by
   have:=(List.getElem?_eq_some_iff.1 hy).1
   rw [List.length_take] at this
   omega
  rw [List.getElem?_take,if_pos hi] at hy
  exact hP i y hi (by simpa using hy)
end
section
open Go.RowKit
def vx {α:Type} (p:α→Bool) (xs:List α) (k:Nat):Prop:=∀ (j:Nat) (x:α),j<k→xs[j]?=some x→p x=false
theorem vx.zero {α:Type} (p:α→Bool) (xs:List α):vx p xs 0:=fun j _ h=>absurd h (Nat.not_lt_zero j)
theorem vx.succ {α:Type} {p:α→Bool} {xs:List α} {k:Nat} (h:vx p xs k) (hlt:k<xs.length) (hp:p xs[k]=false):vx p xs (k+1):=by
 intro j x hj hx
 by_cases e:j=k
 ·subst e
  rw [List.getElem?_eq_getElem hlt] at hx
  injection hx with hx
  rw [← hx];exact hp
 ·exact h j x (by omega) hx
def idxOf {α:Type} (p:α→Bool) (xs:List α):Int:=match xs.findIdx? p with|some n=>n|none=>-1
theorem idx_at {α:Type} {p:α→Bool} {xs:List α} {k:Nat} (hlt:k<xs.length) (h:vx p xs k) (hp:p xs[k]=true):idxOf p xs=k:=by
 have:xs.findIdx? p=some k:=by
  rw [List.findIdx?_eq_some_iff_getElem]
  refine ⟨hlt,hp,fun j hj=>?_⟩
  have:=h j xs[j] hj (List.getElem?_eq_getElem (by omega))
  simp [this]
 simp [idxOf,this]
theorem idx_none {α:Type} {p:α→Bool} {xs:List α} (h:vx p xs xs.length):idxOf p xs=-1:=by
 have:xs.findIdx? p=none:=by
  rw [List.findIdx?_eq_none_iff]
  intro x hx
  obtain ⟨j,hj,rfl⟩:=List.getElem_of_mem hx
  exact h j _ hj (List.getElem?_eq_getElem hj)
 simp [idxOf,this]
theorem index_op {α:Type} (R:World→Nat→Nat→α→Prop) (V:World→α→Value→Prop)
  (hopen:∀ w b o x,R w b o x→∃ (s0:ByteArray) (n1:Int),w.cell? ⟨b,o,none⟩=some (.string s0)∧w.cell? ⟨b,o+1,none⟩=some (.int .i64 n1)∧V w x (.agg #[.string s0,.int .i64 n1]))
  (I:World→Prop) (v:Value) (xs:List α) (g:Nat) (first caps:Array Value) (p:α→Bool) (w:World)
  (eg:∀ args w,(callFunc g args).run Tryz.prog w=.ok (.enter g args) w)
  (hI:I w) (hr:∀ w',I w'→Sl 2 (R w') v xs)
  (hp:∀ w' (j:Nat) (x:α) (val:Value),I w'→xs[j]?=some x→V w' x val→Calls Tryz.prog g (first++#[val]++caps) w' fun e w''=>e=.returned (.bool (p x))∧I w'') :
  Calls Tryz.prog 209 #[v,.func (.func g) first caps] w fun e w'=>e=.returned (.int .i64 (idxOf p xs))∧I w':=by
 obtain ⟨a,c,rfl,hcap,hlen,-⟩:=hr w hI
 have Hcap:=k8 hcap
 clear hcap
 have Hr:=k8 hr
 have Hp:=k8 hp
 clear hr hp
 go_enter Tryz.func209,Tryz.ntmps209
 go_wp2_with fail
 go_loopw [5,8] (fun _ i wr=>∃ k:Nat,k≤xs.length∧i=.int .i64 k∧I wr∧vx p xs k) (fun _ i _=>xs.length - (intOf i).toNat)
 case atStart=>exact ⟨0,gj _,rfl,hI,vx.zero _ _⟩
 case round=>
  obtain ⟨k,hk,rfl,hIr,hN⟩:=hrel
  by_cases hlt:k<xs.length
  ·obtain ⟨a',c',he,_,_,hrow⟩:=Hr.out wr hIr
   obtain ⟨b,o,ha,hrow⟩:=hrow (by intro h;rw [h] at hlt;simp at hlt)
   simp only [Value.slice.injEq] at he
   have Hrow:=hrow k xs[k] (by simp [hlt])
   obtain ⟨s0,n1,h0,h1,hV⟩:=hopen wr b _ _ Hrow
   have Hc:=k8 (Hp.out wr k xs[k] _ hIr (by simp [hlt]) hV)
   obtain ⟨he1,-,-⟩:=he
   subst he1
   subst ha
   cases hpk:p xs[k] with
   | true=>
    rw [hpk] at Hc
    have HN:=k8 hN
    clear hrow Hrow hV hN
    have HK:=k8 hpk
    clear hpk
    go_wp2_with fail
    refine Hc.out.mono ?_
    rintro e w2 ⟨rfl,hI2⟩
    go_wp2_with fail
    go_ret
    exact ⟨by rw [idx_at hlt HN.out HK.out];rfl,hI2⟩
   | false=>
    rw [hpk] at Hc
    clear hrow Hrow hV
    have HN:=k8 (hN.succ hlt hpk)
    clear hpk
    go_wp2_with fail
    refine Hc.out.mono ?_
    rintro e w2 ⟨rfl,hI2⟩
    go_wp2_with fail
    go_roundw
    case rel=>exact ⟨k+1,by omega,by go_num,hI2,HN.out⟩
    case measure=>simp [intOf];omega
  ·have hkk:k=xs.length:=by omega
   have HR:=k8 (idx_none (hkk ▸ hN))
   clear hkk
   go_wp2_with fail
   go_ret
   exact ⟨by rw [HR.out];rfl,hIr⟩
theorem index_expr {α:Type} (R:World→Nat→Nat→α→Prop) (V:World→α→Value→Prop)
  (hopen:∀ w b o x,R w b o x→∃ (n0:Int) (n1:Int) (s2:ByteArray) (a3:Option Addr) (l3 c3:Nat),w.cell? ⟨b,o,none⟩=some (.int .i64 n0)∧w.cell? ⟨b,o+1,none⟩=some (.int .u64 n1)∧w.cell? ⟨b,o+2,none⟩=some (.string s2)∧w.cell? ⟨b,o+3,none⟩=some (.slice a3 l3 c3)∧V w x (.agg #[.int .i64 n0,.int .u64 n1,.string s2,.slice a3 l3 c3]))
  (I:World→Prop) (v:Value) (xs:List α) (g:Nat) (first caps:Array Value) (p:α→Bool) (w:World)
  (eg:∀ args w,(callFunc g args).run Tryz.prog w=.ok (.enter g args) w)
  (hI:I w) (hr:∀ w',I w'→Sl 4 (R w') v xs)
  (hp:∀ w' (j:Nat) (x:α) (val:Value),I w'→xs[j]?=some x→V w' x val→Calls Tryz.prog g (first++#[val]++caps) w' fun e w''=>e=.returned (.bool (p x))∧I w'') :
  Calls Tryz.prog 149 #[v,.func (.func g) first caps] w fun e w'=>e=.returned (.int .i64 (idxOf p xs))∧I w':=by
 obtain ⟨a,c,rfl,hcap,hlen,-⟩:=hr w hI
 have Hcap:=k8 hcap
 clear hcap
 have Hr:=k8 hr
 have Hp:=k8 hp
 clear hr hp
 go_enter Tryz.func149,Tryz.ntmps149
 go_wp2_with fail
 go_loopw [5,8] (fun _ i wr=>∃ k:Nat,k≤xs.length∧i=.int .i64 k∧I wr∧vx p xs k) (fun _ i _=>xs.length - (intOf i).toNat)
 case atStart=>exact ⟨0,gj _,rfl,hI,vx.zero _ _⟩
 case round=>
  obtain ⟨k,hk,rfl,hIr,hN⟩:=hrel
  by_cases hlt:k<xs.length
  ·obtain ⟨a',c',he,_,_,hrow⟩:=Hr.out wr hIr
   obtain ⟨b,o,ha,hrow⟩:=hrow (by intro h;rw [h] at hlt;simp at hlt)
   simp only [Value.slice.injEq] at he
   have Hrow:=hrow k xs[k] (by simp [hlt])
   obtain ⟨n0,n1,s2,a3,l3,c3,h0,h1,h2,h3,hV⟩:=hopen wr b _ _ Hrow
   have Hc:=k8 (Hp.out wr k xs[k] _ hIr (by simp [hlt]) hV)
   obtain ⟨he1,-,-⟩:=he
   subst he1
   subst ha
   cases hpk:p xs[k] with
   | true=>
    rw [hpk] at Hc
    have HN:=k8 hN
    clear hrow Hrow hV hN
    have HK:=k8 hpk
    clear hpk
    go_wp2_with fail
    refine Hc.out.mono ?_
    rintro e w2 ⟨rfl,hI2⟩
    go_wp2_with fail
    go_ret
    exact ⟨by rw [idx_at hlt HN.out HK.out];rfl,hI2⟩
   | false=>
    rw [hpk] at Hc
    clear hrow Hrow hV
    have HN:=k8 (hN.succ hlt hpk)
    clear hpk
    go_wp2_with fail
    refine Hc.out.mono ?_
    rintro e w2 ⟨rfl,hI2⟩
    go_wp2_with fail
    go_roundw
    case rel=>exact ⟨k+1,by omega,by go_num,hI2,HN.out⟩
    case measure=>simp [intOf];omega
  ·have hkk:k=xs.length:=by omega
   have HR:=k8 (idx_none (hkk ▸ hN))
   clear hkk
   go_wp2_with fail
   go_ret
   exact ⟨by rw [HR.out];rfl,hIr⟩
theorem index_param {α:Type} (R:World→Nat→Nat→α→Prop) (V:World→α→Value→Prop)
  (hopen:∀ w b o x,R w b o x→∃ (s0:ByteArray) (n1:Int) (n2:Int),w.cell? ⟨b,o,none⟩=some (.string s0)∧w.cell? ⟨b,o+1,none⟩=some (.int .i64 n1)∧w.cell? ⟨b,o+2,none⟩=some (.int .i64 n2)∧V w x (.agg #[.string s0,.int .i64 n1,.int .i64 n2]))
  (I:World→Prop) (v:Value) (xs:List α) (g:Nat) (first caps:Array Value) (p:α→Bool) (w:World)
  (eg:∀ args w,(callFunc g args).run Tryz.prog w=.ok (.enter g args) w)
  (hI:I w) (hr:∀ w',I w'→Sl 3 (R w') v xs)
  (hp:∀ w' (j:Nat) (x:α) (val:Value),I w'→xs[j]?=some x→V w' x val→Calls Tryz.prog g (first++#[val]++caps) w' fun e w''=>e=.returned (.bool (p x))∧I w'') :
  Calls Tryz.prog 148 #[v,.func (.func g) first caps] w fun e w'=>e=.returned (.int .i64 (idxOf p xs))∧I w':=by
 obtain ⟨a,c,rfl,hcap,hlen,-⟩:=hr w hI
 have Hcap:=k8 hcap
 clear hcap
 have Hr:=k8 hr
 have Hp:=k8 hp
 clear hr hp
 go_enter Tryz.func148,Tryz.ntmps148
 go_wp2_with fail
 go_loopw [5,8] (fun _ i wr=>∃ k:Nat,k≤xs.length∧i=.int .i64 k∧I wr∧vx p xs k) (fun _ i _=>xs.length - (intOf i).toNat)
 case atStart=>exact ⟨0,gj _,rfl,hI,vx.zero _ _⟩
 case round=>
  obtain ⟨k,hk,rfl,hIr,hN⟩:=hrel
  by_cases hlt:k<xs.length
  ·obtain ⟨a',c',he,_,_,hrow⟩:=Hr.out wr hIr
   obtain ⟨b,o,ha,hrow⟩:=hrow (by intro h;rw [h] at hlt;simp at hlt)
   simp only [Value.slice.injEq] at he
   have Hrow:=hrow k xs[k] (by simp [hlt])
   obtain ⟨s0,n1,n2,h0,h1,h2,hV⟩:=hopen wr b _ _ Hrow
   have Hc:=k8 (Hp.out wr k xs[k] _ hIr (by simp [hlt]) hV)
   obtain ⟨he1,-,-⟩:=he
   subst he1
   subst ha
   cases hpk:p xs[k] with
   | true=>
    rw [hpk] at Hc
    have HN:=k8 hN
    clear hrow Hrow hV hN
    have HK:=k8 hpk
    clear hpk
    go_wp2_with fail
    refine Hc.out.mono ?_
    rintro e w2 ⟨rfl,hI2⟩
    go_wp2_with fail
    go_ret
    exact ⟨by rw [idx_at hlt HN.out HK.out];rfl,hI2⟩
   | false=>
    rw [hpk] at Hc
    clear hrow Hrow hV
    have HN:=k8 (hN.succ hlt hpk)
    clear hpk
    go_wp2_with fail
    refine Hc.out.mono ?_
    rintro e w2 ⟨rfl,hI2⟩
    go_wp2_with fail
    go_roundw
    case rel=>exact ⟨k+1,by omega,by go_num,hI2,HN.out⟩
    case measure=>simp [intOf];omega
  ·have hkk:k=xs.length:=by omega
   have HR:=k8 (idx_none (hkk ▸ hN))
   clear hkk
   go_wp2_with fail
   go_ret
   exact ⟨by rw [HR.out];rfl,hIr⟩
theorem index_func {α:Type} (R:World→Nat→Nat→α→Prop) (V:World→α→Value→Prop)
  (hopen:∀ w b o x,R w b o x→∃ (s0:ByteArray) (b1:Bool) (a2:Option Addr) (l2 c2:Nat) (a3:Option Addr) (l3 c3:Nat),w.cell? ⟨b,o,none⟩=some (.string s0)∧w.cell? ⟨b,o+1,none⟩=some (.bool b1)∧w.cell? ⟨b,o+2,none⟩=some (.slice a2 l2 c2)∧w.cell? ⟨b,o+3,none⟩=some (.slice a3 l3 c3)∧V w x (.agg #[.string s0,.bool b1,.slice a2 l2 c2,.slice a3 l3 c3]))
  (I:World→Prop) (v:Value) (xs:List α) (g:Nat) (first caps:Array Value) (p:α→Bool) (w:World)
  (eg:∀ args w,(callFunc g args).run Tryz.prog w=.ok (.enter g args) w)
  (hI:I w) (hr:∀ w',I w'→Sl 4 (R w') v xs)
  (hp:∀ w' (j:Nat) (x:α) (val:Value),I w'→xs[j]?=some x→V w' x val→Calls Tryz.prog g (first++#[val]++caps) w' fun e w''=>e=.returned (.bool (p x))∧I w'') :
  Calls Tryz.prog 93 #[v,.func (.func g) first caps] w fun e w'=>e=.returned (.int .i64 (idxOf p xs))∧I w':=by
 obtain ⟨a,c,rfl,hcap,hlen,-⟩:=hr w hI
 have Hcap:=k8 hcap
 clear hcap
 have Hr:=k8 hr
 have Hp:=k8 hp
 clear hr hp
 go_enter Tryz.func93,Tryz.ntmps93
 go_wp2_with fail
 go_loopw [5,8] (fun _ i wr=>∃ k:Nat,k≤xs.length∧i=.int .i64 k∧I wr∧vx p xs k) (fun _ i _=>xs.length - (intOf i).toNat)
 case atStart=>exact ⟨0,gj _,rfl,hI,vx.zero _ _⟩
 case round=>
  obtain ⟨k,hk,rfl,hIr,hN⟩:=hrel
  by_cases hlt:k<xs.length
  ·obtain ⟨a',c',he,_,_,hrow⟩:=Hr.out wr hIr
   obtain ⟨b,o,ha,hrow⟩:=hrow (by intro h;rw [h] at hlt;simp at hlt)
   simp only [Value.slice.injEq] at he
   have Hrow:=hrow k xs[k] (by simp [hlt])
   obtain ⟨s0,b1,a2,l2,c2,a3,l3,c3,h0,h1,h2,h3,hV⟩:=hopen wr b _ _ Hrow
   have Hc:=k8 (Hp.out wr k xs[k] _ hIr (by simp [hlt]) hV)
   obtain ⟨he1,-,-⟩:=he
   subst he1
   subst ha
   cases hpk:p xs[k] with
   | true=>
    rw [hpk] at Hc
    have HN:=k8 hN
    clear hrow Hrow hV hN
    have HK:=k8 hpk
    clear hpk
    go_wp2_with fail
    refine Hc.out.mono ?_
    rintro e w2 ⟨rfl,hI2⟩
    go_wp2_with fail
    go_ret
    exact ⟨by rw [idx_at hlt HN.out HK.out];rfl,hI2⟩
   | false=>
    rw [hpk] at Hc
    clear hrow Hrow hV
    have HN:=k8 (hN.succ hlt hpk)
    clear hpk
    go_wp2_with fail
    refine Hc.out.mono ?_
    rintro e w2 ⟨rfl,hI2⟩
    go_wp2_with fail
    go_roundw
    case rel=>exact ⟨k+1,by omega,by go_num,hI2,HN.out⟩
    case measure=>simp [intOf];omega
  ·have hkk:k=xs.length:=by omega
   have HR:=k8 (idx_none (hkk ▸ hN))
   clear hkk
   go_wp2_with fail
   go_ret
   exact ⟨by rw [HR.out];rfl,hIr⟩
end
section
open Go.RowKit
def qi (w:World) (o:Option (List Txt)) (e:Ending) (w':World):Prop:=
 Below w.heap.size w w'∧(match o with
  | some ts=>∃ v,e=.returned v∧w'.ownsRow w.heap.size 9 1 v ts.length (ts.map fun t=>.string (S t))
  | none=>e=.panicked [wrongT])
theorem jm:(Tryz.prog.info? 9).map (fun i=>(i.zero,i.size,i.bytes))=some (some (.string ⟨#[]⟩),1,16):=by kernel_rfl
structure AllInv {α:Type} (w:World) (f:α→Option Txt) (xs:List α) (k:Nat) (out:Value) (wr:World):Prop where
 below:Below w.heap.size w wr
 row:∃ ts,jx f (xs.take k)=some ts∧ts.length=k∧wr.ownsRow w.heap.size 9 1 out k (ts.map fun t=>.string (S t))
theorem all_snoc {α:Type} (f:α→Option Txt):∀ (l:List α) (x:α),jx f (l++[x])=(jx f l).bind fun ts=>(f x).map fun t=>ts++[t]
 | [],x=>by cases h:f x<;>simp [jx,h]
 | y::l,x=>by
  have ih:=all_snoc f l x
  simp only [List.cons_append,jx,ih]
  cases f y<;>simp
  cases jx f l<;>simp
  cases f x<;>simp
theorem take_snoc' {α:Type} {xs:List α} {k:Nat} (hlt:k<xs.length):xs.take (k+1)=xs.take k++[xs[k]]:=by
 rw [List.take_succ_eq_append_getElem hlt]
theorem all_some {α:Type} {f:α→Option Txt} {xs:List α} {k:Nat} {ts:List Txt} {t:Txt} (hlt:k<xs.length) (h:jx f (xs.take k)=some ts) (hf:f xs[k]=some t):jx f (xs.take (k+1))=some (ts++[t]):=by
 rw [take_snoc' hlt,all_snoc,h,hf];rfl
theorem all_none {α:Type} {f:α→Option Txt}:∀ {xs:List α} {k:Nat} (hlt:k<xs.length),f xs[k]=none→jx f xs=none
 | x::xs,0,_,h=>by simp [jx,show f x=none from h]
 | x::xs,k+1,hlt,h=>by
  have ih:=all_none (f:=f) (xs:=xs) (k:=k) (by simpa using hlt) h
  simp [jx,ih]
theorem AllInv.start {α:Type} (w:World) (f:α→Option Txt) (xs:List α):AllInv w f xs 0 (.slice none 0 0) w:=
 ⟨wu _ _,[],by simp [jx],rfl,by simp,.inl ⟨rfl,rfl⟩⟩
theorem AllInv.done {α:Type} {w:World} {f:α→Option Txt} {xs:List α} {out:Value} {wr:World} (h:AllInv w f xs xs.length out wr):qi w (jx f xs) (.returned out) wr:=by
 obtain ⟨ts,h1,h2,h3⟩:=h.row
 rw [List.take_length] at h1
 refine ⟨h.below,?_⟩
 rw [h1]
 exact ⟨out,rfl,h2 ▸ h3⟩
theorem all_exprs {α:Type} (R:World→Nat→Nat→α→Prop) (V:World→α→Value→Prop)
  (hopen:∀ w b o x,R w b o x→∃ (n0:Int) (n1:Int) (s2:ByteArray) (a3:Option Addr) (l3 c3:Nat),w.cell? ⟨b,o,none⟩=some (.int .i64 n0)∧w.cell? ⟨b,o+1,none⟩=some (.int .u64 n1)∧w.cell? ⟨b,o+2,none⟩=some (.string s2)∧w.cell? ⟨b,o+3,none⟩=some (.slice a3 l3 c3)∧V w x (.agg #[.int .i64 n0,.int .u64 n1,.string s2,.slice a3 l3 c3]))
  (hmono:∀ w w' b o x,R w b o x→Below w.heap.size w w'→R w' b o x)
  (v:Value) (xs:List α) (g:Nat) (f:α→Option Txt) (w:World)
  (eg:∀ args w,(callFunc g args).run Tryz.prog w=.ok (.enter g args) w)
  (hr:Sl 4 (R w) v xs) (hlen:xs.length≤100000)
  (hp:∀ w1 w2 (j:Nat) (x:α) (val:Value),Below w.heap.size w w1→xs[j]?=some x→V w1 x val→Below w1.heap.size w1 w2→Calls Tryz.prog g #[val] w2 (qe w2 (f x))) :
  Calls Tryz.prog 189 #[v,.func (.func g) #[] #[]] w (qi w (jx f xs)):=by
 obtain ⟨a,c,rfl,-,-,hrow⟩:=hr
 have Hrow:=k8 hrow
 have Hp:=k8 hp
 clear hrow hp
 obtain ⟨i0,hi,hz0,hz1,hz2⟩:=info_parts jm
 go_enter Tryz.func189,Tryz.ntmps189
 go_wp2_with fail
 go_loopw [5,10] (fun out i wr=>∃ k:Nat,k≤xs.length∧i=.int .i64 k∧AllInv w f xs k out wr) (fun _ i _=>xs.length - (intOf i).toNat)
 case atStart=>exact ⟨0,gj _,rfl,AllInv.start _ _ _⟩
 case round=>
  obtain ⟨k,hk,rfl,hInv⟩:=hrel
  by_cases hlt:k<xs.length
  ·obtain ⟨b,o,rfl,hro⟩:=Hrow.out (by intro h;rw [h] at hlt;simp at hlt)
   have HB:=k8 hInv.below
   have Hat:=hmono w wr _ _ _ (hro k xs[k] (by simp [hlt])) hInv.below
   obtain ⟨n0,n1,s2,a3,l3,c3,h0,h1,h2,h3,hV⟩:=hopen wr b _ _ Hat
   have HI:=k8 hInv
   clear hInv hro Hat
   have hb:=k9 wr _ h0
   go_wp2_with fail
   refine (Hp.out wr _ k xs[k] _ HB.out (by simp [hlt]) hV ((wu _ _).alloc (wo _) _)).mono ?_
   rintro e w2 ⟨hB2,he⟩
   have HO:=k8 (HI.out.row)
   have Hsz:=k8 HI.out.below.size
   clear HI
   cases hf:f xs[k] with
   | none=>
    rw [hf] at he
    subst he
    have HE:=k8 (all_none (xs:=xs) hlt hf)
    have HBB:=k8 (jg HB.out Hsz.out (jg ((wu _ _).alloc (wo _) _) (by simp) hB2))
    clear hB2 hf
    go_wp2_with fail
    exact ⟨rfl,HBB.out,by rw [HE.out]⟩
   | some t=>
    rw [hf] at he
    subst he
    obtain ⟨ts,ht1,ht2,ho⟩:=HO.out
    have hz2:=hB2.size
    have HO2:=k8 (jv (jv ho ((wu _ _).alloc (wo _) _)) hB2)
    have HBB:=k8 (jg HB.out Hsz.out (jg ((wu _ _).alloc (wo _) _) (by simp) hB2))
    have HE:=k8 (all_some hlt ht1 hf)
    have HT2:=k8 ht2
    have HZ:=k8 (wx Hsz.out (wx (show wr.heap.size≤_ by simp) hz2))
    clear hB2 hf ho ht1 ht2 hz2 HO
    go_wp2_with (at_builtin;go_loud (refine ke _ rfl _ _ 136 9 _ 16 rfl Tryz.underlying136 jm rfl w.heap.size k _ _ _ ?c0 _ rfl ?ck ?c1 HO2.out ?c2 ?c3 ?c4 ?_))
    case c0=>rfl
    case ck=>simp
    case c1=>rfl
    case c2=>exact HZ.out
    case c3=>omega
    case c4=>decide
    intro v1 w3 ho3 hg3
    have HO3:=k8 ho3
    have HB3:=k8 (j6 HBB.out HO2.out (wo _) HZ.out hg3)
    clear ho3 hg3
    go_wp2
    go_roundw
    case rel=>exact ⟨k+1,by omega,by go_num,HB3.out,_,HE.out,by simp [HT2.out],by simpa using HO3.out⟩
    case measure=>simp [intOf];omega
  ·go_wp2_with fail
   go_ret
   have hkk:k=xs.length:=by omega
   subst hkk
   exact hInv.done
theorem all_stmts {α:Type} (R:World→Nat→Nat→α→Prop) (V:World→α→Value→Prop)
  (hopen:∀ w b o x,R w b o x→∃ (n0:Int) (s1:ByteArray) (n2:Int) (a3:Option Addr) (l3 c3:Nat) (a4:Option Addr) (l4 c4:Nat) (a5:Option Addr) (l5 c5:Nat),w.cell? ⟨b,o,none⟩=some (.int .i64 n0)∧w.cell? ⟨b,o+1,none⟩=some (.string s1)∧w.cell? ⟨b,o+2,none⟩=some (.int .i64 n2)∧w.cell? ⟨b,o+3,none⟩=some (.slice a3 l3 c3)∧w.cell? ⟨b,o+4,none⟩=some (.slice a4 l4 c4)∧w.cell? ⟨b,o+5,none⟩=some (.slice a5 l5 c5)∧V w x (.agg #[.int .i64 n0,.string s1,.int .i64 n2,.slice a3 l3 c3,.slice a4 l4 c4,.slice a5 l5 c5]))
  (hmono:∀ w w' b o x,R w b o x→Below w.heap.size w w'→R w' b o x)
  (v:Value) (xs:List α) (g:Nat) (f:α→Option Txt) (w:World)
  (eg:∀ args w,(callFunc g args).run Tryz.prog w=.ok (.enter g args) w)
  (hr:Sl 6 (R w) v xs) (hlen:xs.length≤100000)
  (hp:∀ w1 w2 (j:Nat) (x:α) (val:Value),Below w.heap.size w w1→xs[j]?=some x→V w1 x val→Below w1.heap.size w1 w2→Calls Tryz.prog g #[val] w2 (qe w2 (f x))) :
  Calls Tryz.prog 175 #[v,.func (.func g) #[] #[]] w (qi w (jx f xs)):=by
 obtain ⟨a,c,rfl,-,-,hrow⟩:=hr
 have Hrow:=k8 hrow
 have Hp:=k8 hp
 clear hrow hp
 obtain ⟨i0,hi,hz0,hz1,hz2⟩:=info_parts jm
 go_enter Tryz.func175,Tryz.ntmps175
 go_wp2_with fail
 go_loopw [5,10] (fun out i wr=>∃ k:Nat,k≤xs.length∧i=.int .i64 k∧AllInv w f xs k out wr) (fun _ i _=>xs.length - (intOf i).toNat)
 case atStart=>exact ⟨0,gj _,rfl,AllInv.start _ _ _⟩
 case round=>
  obtain ⟨k,hk,rfl,hInv⟩:=hrel
  by_cases hlt:k<xs.length
  ·obtain ⟨b,o,rfl,hro⟩:=Hrow.out (by intro h;rw [h] at hlt;simp at hlt)
   have HB:=k8 hInv.below
   have Hat:=hmono w wr _ _ _ (hro k xs[k] (by simp [hlt])) hInv.below
   obtain ⟨n0,s1,n2,a3,l3,c3,a4,l4,c4,a5,l5,c5,h0,h1,h2,h3,h4,h5,hV⟩:=hopen wr b _ _ Hat
   have HI:=k8 hInv
   clear hInv hro Hat
   have hb:=k9 wr _ h0
   go_wp2_with fail
   refine (Hp.out wr _ k xs[k] _ HB.out (by simp [hlt]) hV ((wu _ _).alloc (wo _) _)).mono ?_
   rintro e w2 ⟨hB2,he⟩
   have HO:=k8 (HI.out.row)
   have Hsz:=k8 HI.out.below.size
   clear HI
   cases hf:f xs[k] with
   | none=>
    rw [hf] at he
    subst he
    have HE:=k8 (all_none (xs:=xs) hlt hf)
    have HBB:=k8 (jg HB.out Hsz.out (jg ((wu _ _).alloc (wo _) _) (by simp) hB2))
    clear hB2 hf
    go_wp2_with fail
    exact ⟨rfl,HBB.out,by rw [HE.out]⟩
   | some t=>
    rw [hf] at he
    subst he
    obtain ⟨ts,ht1,ht2,ho⟩:=HO.out
    have hz2:=hB2.size
    have HO2:=k8 (jv (jv ho ((wu _ _).alloc (wo _) _)) hB2)
    have HBB:=k8 (jg HB.out Hsz.out (jg ((wu _ _).alloc (wo _) _) (by simp) hB2))
    have HE:=k8 (all_some hlt ht1 hf)
    have HT2:=k8 ht2
    have HZ:=k8 (wx Hsz.out (wx (show wr.heap.size≤_ by simp) hz2))
    clear hB2 hf ho ht1 ht2 hz2 HO
    go_wp2_with (at_builtin;go_loud (refine ke _ rfl _ _ 136 9 _ 16 rfl Tryz.underlying136 jm rfl w.heap.size k _ _ _ ?c0 _ rfl ?ck ?c1 HO2.out ?c2 ?c3 ?c4 ?_))
    case c0=>rfl
    case ck=>simp
    case c1=>rfl
    case c2=>exact HZ.out
    case c3=>omega
    case c4=>decide
    intro v1 w3 ho3 hg3
    have HO3:=k8 ho3
    have HB3:=k8 (j6 HBB.out HO2.out (wo _) HZ.out hg3)
    clear ho3 hg3
    go_wp2
    go_roundw
    case rel=>exact ⟨k+1,by omega,by go_num,HB3.out,_,HE.out,by simp [HT2.out],by simpa using HO3.out⟩
    case measure=>simp [intOf];omega
  ·go_wp2_with fail
   go_ret
   have hkk:k=xs.length:=by omega
   subst hkk
   exact hInv.done
theorem all_params {α:Type} (R:World→Nat→Nat→α→Prop) (V:World→α→Value→Prop)
  (hopen:∀ w b o x,R w b o x→∃ (s0:ByteArray) (n1:Int) (n2:Int),w.cell? ⟨b,o,none⟩=some (.string s0)∧w.cell? ⟨b,o+1,none⟩=some (.int .i64 n1)∧w.cell? ⟨b,o+2,none⟩=some (.int .i64 n2)∧V w x (.agg #[.string s0,.int .i64 n1,.int .i64 n2]))
  (hmono:∀ w w' b o x,R w b o x→Below w.heap.size w w'→R w' b o x)
  (v:Value) (xs:List α) (g:Nat) (f:α→Option Txt) (w:World)
  (eg:∀ args w,(callFunc g args).run Tryz.prog w=.ok (.enter g args) w)
  (hr:Sl 3 (R w) v xs) (hlen:xs.length≤100000)
  (hp:∀ w1 w2 (j:Nat) (x:α) (val:Value),Below w.heap.size w w1→xs[j]?=some x→V w1 x val→Below w1.heap.size w1 w2→Calls Tryz.prog g #[val] w2 (qe w2 (f x))) :
  Calls Tryz.prog 173 #[v,.func (.func g) #[] #[]] w (qi w (jx f xs)):=by
 obtain ⟨a,c,rfl,-,-,hrow⟩:=hr
 have Hrow:=k8 hrow
 have Hp:=k8 hp
 clear hrow hp
 obtain ⟨i0,hi,hz0,hz1,hz2⟩:=info_parts jm
 go_enter Tryz.func173,Tryz.ntmps173
 go_wp2_with fail
 go_loopw [5,10] (fun out i wr=>∃ k:Nat,k≤xs.length∧i=.int .i64 k∧AllInv w f xs k out wr) (fun _ i _=>xs.length - (intOf i).toNat)
 case atStart=>exact ⟨0,gj _,rfl,AllInv.start _ _ _⟩
 case round=>
  obtain ⟨k,hk,rfl,hInv⟩:=hrel
  by_cases hlt:k<xs.length
  ·obtain ⟨b,o,rfl,hro⟩:=Hrow.out (by intro h;rw [h] at hlt;simp at hlt)
   have HB:=k8 hInv.below
   have Hat:=hmono w wr _ _ _ (hro k xs[k] (by simp [hlt])) hInv.below
   obtain ⟨s0,n1,n2,h0,h1,h2,hV⟩:=hopen wr b _ _ Hat
   have HI:=k8 hInv
   clear hInv hro Hat
   have hb:=k9 wr _ h0
   go_wp2_with fail
   refine (Hp.out wr _ k xs[k] _ HB.out (by simp [hlt]) hV ((wu _ _).alloc (wo _) _)).mono ?_
   rintro e w2 ⟨hB2,he⟩
   have HO:=k8 (HI.out.row)
   have Hsz:=k8 HI.out.below.size
   clear HI
   cases hf:f xs[k] with
   | none=>
    rw [hf] at he
    subst he
    have HE:=k8 (all_none (xs:=xs) hlt hf)
    have HBB:=k8 (jg HB.out Hsz.out (jg ((wu _ _).alloc (wo _) _) (by simp) hB2))
    clear hB2 hf
    go_wp2_with fail
    exact ⟨rfl,HBB.out,by rw [HE.out]⟩
   | some t=>
    rw [hf] at he
    subst he
    obtain ⟨ts,ht1,ht2,ho⟩:=HO.out
    have hz2:=hB2.size
    have HO2:=k8 (jv (jv ho ((wu _ _).alloc (wo _) _)) hB2)
    have HBB:=k8 (jg HB.out Hsz.out (jg ((wu _ _).alloc (wo _) _) (by simp) hB2))
    have HE:=k8 (all_some hlt ht1 hf)
    have HT2:=k8 ht2
    have HZ:=k8 (wx Hsz.out (wx (show wr.heap.size≤_ by simp) hz2))
    clear hB2 hf ho ht1 ht2 hz2 HO
    go_wp2_with (at_builtin;go_loud (refine ke _ rfl _ _ 136 9 _ 16 rfl Tryz.underlying136 jm rfl w.heap.size k _ _ _ ?c0 _ rfl ?ck ?c1 HO2.out ?c2 ?c3 ?c4 ?_))
    case c0=>rfl
    case ck=>simp
    case c1=>rfl
    case c2=>exact HZ.out
    case c3=>omega
    case c4=>decide
    intro v1 w3 ho3 hg3
    have HO3:=k8 ho3
    have HB3:=k8 (j6 HBB.out HO2.out (wo _) HZ.out hg3)
    clear ho3 hg3
    go_wp2
    go_roundw
    case rel=>exact ⟨k+1,by omega,by go_num,HB3.out,_,HE.out,by simp [HT2.out],by simpa using HO3.out⟩
    case measure=>simp [intOf];omega
  ·go_wp2_with fail
   go_ret
   have hkk:k=xs.length:=by omega
   subst hkk
   exact hInv.done
theorem all_funcs {α:Type} (R:World→Nat→Nat→α→Prop) (V:World→α→Value→Prop)
  (hopen:∀ w b o x,R w b o x→∃ (s0:ByteArray) (b1:Bool) (a2:Option Addr) (l2 c2:Nat) (a3:Option Addr) (l3 c3:Nat),w.cell? ⟨b,o,none⟩=some (.string s0)∧w.cell? ⟨b,o+1,none⟩=some (.bool b1)∧w.cell? ⟨b,o+2,none⟩=some (.slice a2 l2 c2)∧w.cell? ⟨b,o+3,none⟩=some (.slice a3 l3 c3)∧V w x (.agg #[.string s0,.bool b1,.slice a2 l2 c2,.slice a3 l3 c3]))
  (hmono:∀ w w' b o x,R w b o x→Below w.heap.size w w'→R w' b o x)
  (v:Value) (xs:List α) (g:Nat) (f:α→Option Txt) (w:World)
  (eg:∀ args w,(callFunc g args).run Tryz.prog w=.ok (.enter g args) w)
  (hr:Sl 4 (R w) v xs) (hlen:xs.length≤100000)
  (hp:∀ w1 w2 (j:Nat) (x:α) (val:Value),Below w.heap.size w w1→xs[j]?=some x→V w1 x val→Below w1.heap.size w1 w2→Calls Tryz.prog g #[val] w2 (qe w2 (f x))) :
  Calls Tryz.prog 141 #[v,.func (.func g) #[] #[]] w (qi w (jx f xs)):=by
 obtain ⟨a,c,rfl,-,-,hrow⟩:=hr
 have Hrow:=k8 hrow
 have Hp:=k8 hp
 clear hrow hp
 obtain ⟨i0,hi,hz0,hz1,hz2⟩:=info_parts jm
 go_enter Tryz.func141,Tryz.ntmps141
 go_wp2_with fail
 go_loopw [5,10] (fun out i wr=>∃ k:Nat,k≤xs.length∧i=.int .i64 k∧AllInv w f xs k out wr) (fun _ i _=>xs.length - (intOf i).toNat)
 case atStart=>exact ⟨0,gj _,rfl,AllInv.start _ _ _⟩
 case round=>
  obtain ⟨k,hk,rfl,hInv⟩:=hrel
  by_cases hlt:k<xs.length
  ·obtain ⟨b,o,rfl,hro⟩:=Hrow.out (by intro h;rw [h] at hlt;simp at hlt)
   have HB:=k8 hInv.below
   have Hat:=hmono w wr _ _ _ (hro k xs[k] (by simp [hlt])) hInv.below
   obtain ⟨s0,b1,a2,l2,c2,a3,l3,c3,h0,h1,h2,h3,hV⟩:=hopen wr b _ _ Hat
   have HI:=k8 hInv
   clear hInv hro Hat
   have hb:=k9 wr _ h0
   go_wp2_with fail
   refine (Hp.out wr _ k xs[k] _ HB.out (by simp [hlt]) hV ((wu _ _).alloc (wo _) _)).mono ?_
   rintro e w2 ⟨hB2,he⟩
   have HO:=k8 (HI.out.row)
   have Hsz:=k8 HI.out.below.size
   clear HI
   cases hf:f xs[k] with
   | none=>
    rw [hf] at he
    subst he
    have HE:=k8 (all_none (xs:=xs) hlt hf)
    have HBB:=k8 (jg HB.out Hsz.out (jg ((wu _ _).alloc (wo _) _) (by simp) hB2))
    clear hB2 hf
    go_wp2_with fail
    exact ⟨rfl,HBB.out,by rw [HE.out]⟩
   | some t=>
    rw [hf] at he
    subst he
    obtain ⟨ts,ht1,ht2,ho⟩:=HO.out
    have hz2:=hB2.size
    have HO2:=k8 (jv (jv ho ((wu _ _).alloc (wo _) _)) hB2)
    have HBB:=k8 (jg HB.out Hsz.out (jg ((wu _ _).alloc (wo _) _) (by simp) hB2))
    have HE:=k8 (all_some hlt ht1 hf)
    have HT2:=k8 ht2
    have HZ:=k8 (wx Hsz.out (wx (show wr.heap.size≤_ by simp) hz2))
    clear hB2 hf ho ht1 ht2 hz2 HO
    go_wp2_with (at_builtin;go_loud (refine ke _ rfl _ _ 136 9 _ 16 rfl Tryz.underlying136 jm rfl w.heap.size k _ _ _ ?c0 _ rfl ?ck ?c1 HO2.out ?c2 ?c3 ?c4 ?_))
    case c0=>rfl
    case ck=>simp
    case c1=>rfl
    case c2=>exact HZ.out
    case c3=>omega
    case c4=>decide
    intro v1 w3 ho3 hg3
    have HO3:=k8 ho3
    have HB3:=k8 (j6 HBB.out HO2.out (wo _) HZ.out hg3)
    clear ho3 hg3
    go_wp2
    go_roundw
    case rel=>exact ⟨k+1,by omega,by go_num,HB3.out,_,HE.out,by simp [HT2.out],by simpa using HO3.out⟩
    case measure=>simp [intOf];omega
  ·go_wp2_with fail
   go_ret
   have hkk:k=xs.length:=by omega
   subst hkk
   exact hInv.done
theorem all_arrays {α:Type} (R:World→Nat→Nat→α→Prop) (V:World→α→Value→Prop)
  (hopen:∀ w b o x,R w b o x→∃ (s0:ByteArray) (n1:Int),w.cell? ⟨b,o,none⟩=some (.string s0)∧w.cell? ⟨b,o+1,none⟩=some (.int .i64 n1)∧V w x (.agg #[.string s0,.int .i64 n1]))
  (hmono:∀ w w' b o x,R w b o x→Below w.heap.size w w'→R w' b o x)
  (v:Value) (xs:List α) (g:Nat) (f:α→Option Txt) (w:World)
  (eg:∀ args w,(callFunc g args).run Tryz.prog w=.ok (.enter g args) w)
  (hr:Sl 2 (R w) v xs) (hlen:xs.length≤100000)
  (hp:∀ w1 w2 (j:Nat) (x:α) (val:Value),Below w.heap.size w w1→xs[j]?=some x→V w1 x val→Below w1.heap.size w1 w2→Calls Tryz.prog g #[val] w2 (qe w2 (f x))) :
  Calls Tryz.prog 136 #[v,.func (.func g) #[] #[]] w (qi w (jx f xs)):=by
 obtain ⟨a,c,rfl,-,-,hrow⟩:=hr
 have Hrow:=k8 hrow
 have Hp:=k8 hp
 clear hrow hp
 obtain ⟨i0,hi,hz0,hz1,hz2⟩:=info_parts jm
 go_enter Tryz.func136,Tryz.ntmps136
 go_wp2_with fail
 go_loopw [5,10] (fun out i wr=>∃ k:Nat,k≤xs.length∧i=.int .i64 k∧AllInv w f xs k out wr) (fun _ i _=>xs.length - (intOf i).toNat)
 case atStart=>exact ⟨0,gj _,rfl,AllInv.start _ _ _⟩
 case round=>
  obtain ⟨k,hk,rfl,hInv⟩:=hrel
  by_cases hlt:k<xs.length
  ·obtain ⟨b,o,rfl,hro⟩:=Hrow.out (by intro h;rw [h] at hlt;simp at hlt)
   have HB:=k8 hInv.below
   have Hat:=hmono w wr _ _ _ (hro k xs[k] (by simp [hlt])) hInv.below
   obtain ⟨s0,n1,h0,h1,hV⟩:=hopen wr b _ _ Hat
   have HI:=k8 hInv
   clear hInv hro Hat
   have hb:=k9 wr _ h0
   go_wp2_with fail
   refine (Hp.out wr _ k xs[k] _ HB.out (by simp [hlt]) hV ((wu _ _).alloc (wo _) _)).mono ?_
   rintro e w2 ⟨hB2,he⟩
   have HO:=k8 (HI.out.row)
   have Hsz:=k8 HI.out.below.size
   clear HI
   cases hf:f xs[k] with
   | none=>
    rw [hf] at he
    subst he
    have HE:=k8 (all_none (xs:=xs) hlt hf)
    have HBB:=k8 (jg HB.out Hsz.out (jg ((wu _ _).alloc (wo _) _) (by simp) hB2))
    clear hB2 hf
    go_wp2_with fail
    exact ⟨rfl,HBB.out,by rw [HE.out]⟩
   | some t=>
    rw [hf] at he
    subst he
    obtain ⟨ts,ht1,ht2,ho⟩:=HO.out
    have hz2:=hB2.size
    have HO2:=k8 (jv (jv ho ((wu _ _).alloc (wo _) _)) hB2)
    have HBB:=k8 (jg HB.out Hsz.out (jg ((wu _ _).alloc (wo _) _) (by simp) hB2))
    have HE:=k8 (all_some hlt ht1 hf)
    have HT2:=k8 ht2
    have HZ:=k8 (wx Hsz.out (wx (show wr.heap.size≤_ by simp) hz2))
    clear hB2 hf ho ht1 ht2 hz2 HO
    go_wp2_with (at_builtin;go_loud (refine ke _ rfl _ _ 136 9 _ 16 rfl Tryz.underlying136 jm rfl w.heap.size k _ _ _ ?c0 _ rfl ?ck ?c1 HO2.out ?c2 ?c3 ?c4 ?_))
    case c0=>rfl
    case ck=>simp
    case c1=>rfl
    case c2=>exact HZ.out
    case c3=>omega
    case c4=>decide
    intro v1 w3 ho3 hg3
    have HO3:=k8 ho3
    have HB3:=k8 (j6 HBB.out HO2.out (wo _) HZ.out hg3)
    clear ho3 hg3
    go_wp2
    go_roundw
    case rel=>exact ⟨k+1,by omega,by go_num,HB3.out,_,HE.out,by simp [HT2.out],by simpa using HO3.out⟩
    case measure=>simp [intOf];omega
  ·go_wp2_with fail
   go_ret
   have hkk:k=xs.length:=by omega
   subst hkk
   exact hInv.done
end
section
open Go.RowKit
theorem named_any (s:ByteArray) (w:World) (hsz:s.size≤140737488351232) (hg:Glob w):Calls Tryz.prog 139 #[.string s] w (qe w (jl s.data.toList)):=by
 have HN:=k8 (name_any s w hsz hg)
 clear hg
 cases hn:nameOk s.data.toList with
 | true=>
  rw [hn] at HN
  have HE:Hid (jl s.data.toList=some s.data.toList):=by simp [Hid,jl,hn]
  clear hn
  go_enter Tryz.func139,Tryz.ntmps139
  go_wp2_with fail
  refine HN.out.mono ?_
  rintro e w1 ⟨rfl,hB⟩
  have HB:=k8 hB
  clear hB
  go_wp2_with fail
  refine (j7 _).mono ?_
  rintro e w2 ⟨rfl,rfl⟩
  go_wp2
  go_ret
  exact ⟨HB.out,by rw [HE.out];show _=Ending.returned (Value.string (S s.data.toList));rw [S_of];rfl⟩
 | false=>
  rw [hn] at HN
  have HE:Hid (jl s.data.toList=none):=by simp [Hid,jl,hn]
  clear hn
  go_enter Tryz.func139,Tryz.ntmps139
  go_wp2_with fail
  refine HN.out.mono ?_
  rintro e w1 ⟨rfl,hB⟩
  have HB:=k8 hB
  clear hB
  go_wp2_with fail
  refine (zc _).mono ?_
  rintro e w2 ⟨rfl,rfl⟩
  go_wp2
  exact ⟨rfl,HB.out,by rw [HE.out]⟩
theorem number_any (n:Int) (w:World) (hg:Glob w):Calls Tryz.prog 140 #[.int .i64 n] w (qe w (zb n)):=by
 by_cases h1:1≤n
 ·by_cases h2:n≤64
  ·have HD:=k8 (digits_any n (by omega) (by omega) w hg)
   have HE:Hid (zb n=some (Lib.decDigits n.toNat)):=by simp [Hid,zb,h1,h2]
   have hw:IntKind.u64.wrap n=n:=by rw [IntKind.wrap_u64];omega
   clear hg
   go_enter Tryz.func140,Tryz.ntmps140
   go_wp2_with fail
   refine (j7 _).mono ?_
   rintro e w2 ⟨rfl,rfl⟩
   go_wp2_with fail
   refine HD.out.mono ?_
   rintro e w1 ⟨rfl,hB⟩
   have HB:=k8 hB
   clear hB
   go_wp2
   go_ret
   exact ⟨HB.out,by rw [HE.out];rfl⟩
  ·have HE:Hid (zb n=none):=by simp [Hid,zb,h1,h2]
   clear hg
   go_enter Tryz.func140,Tryz.ntmps140
   go_wp2_with fail
   refine (zc _).mono ?_
   rintro e w2 ⟨rfl,rfl⟩
   go_wp2
   exact ⟨rfl,wu _ _,by rw [HE.out]⟩
 ·have HE:Hid (zb n=none):=by simp [Hid,zb,h1]
  clear hg
  go_enter Tryz.func140,Tryz.ntmps140
  go_wp2_with fail
  refine (zc _).mono ?_
  rintro e w2 ⟨rfl,rfl⟩
  go_wp2
  exact ⟨rfl,wu _ _,by rw [HE.out]⟩
def TxtSl (w:World) (v:Value) (ts:List Txt):Prop:=
 ∃ a c,v=.slice a ts.length c∧ts.length≤c∧(ts≠[]→∃ b o,a=some ⟨b,o,none⟩∧∀ (j:Nat) (t:Txt),ts[j]?=some t→w.cell? ⟨b,o+j,none⟩=some (.string (S t)))
theorem qc {w:World} {base n:Nat} {v:Value} {ts:List Txt} (h:w.ownsRow base 9 1 v n (ts.map fun t=>.string (S t))) (hn:ts.length=n):TxtSl w v ts:=by
 subst hn
 have hc:=h
 rcases h.2 with ⟨rfl,h0⟩|⟨g,cap,cur,rfl,_,_,hcap,_,_,_⟩
 ·exact ⟨none,0,by rw [h0],by omega,fun hne=>absurd (List.eq_nil_of_length_eq_zero h0) hne⟩
 ·refine ⟨_,cap,rfl,hcap,fun hne=>⟨g,0,rfl,fun j t hj=>?_⟩⟩
  have:=hc.cells (g:=g) rfl j (.string (S t)) (by simp [hj])
  have ha:(⟨g,0,none⟩:Addr).add j=⟨g,0+j,none⟩:=by unfold Addr.add;split<;>simp_all
  rwa [ha] at this
theorem TxtSl.below {w w1:World} {v:Value} {ts:List Txt} (h:TxtSl w v ts) (hb:Below w.heap.size w w1):TxtSl w1 v ts:=by
 obtain ⟨a,c,h1,h2,h3⟩:=h
 refine ⟨a,c,h1,h2,fun hne=>?_⟩
 obtain ⟨b,o,ha,hj⟩:=h3 hne
 exact ⟨b,o,ha,fun j t ht=>(hb.cell (k9 w _ (hj j t ht))).trans (hj j t ht)⟩
theorem join_any (v:Value) (ts:List Txt) (sep:ByteArray) (w:World) (h:TxtSl w v ts) (hn:ts.length≤140737488355328) (hlen:(Lib.join ts sep.data.toList).length≤140737488355328) :
  Calls Tryz.prog 143 #[v,.string sep] w (Ret w (.string (S (Lib.join ts sep.data.toList)))):=by
 obtain ⟨a,c,rfl,hc,hr⟩:=h
 cases ts with
 | nil=>
  refine (Tryz.strings_Join_none a c sep w).mono ?_
  rintro e w' ⟨rfl,rfl⟩
  exact ⟨rfl,wu _ _⟩
 | cons t ts=>
  obtain ⟨b,o,rfl,hj⟩:=hr (by simp)
  have hm:((t::ts).map S).map (fun x=>x.data.toList)=t::ts:=by
   rw [List.map_map]
   have:((fun x:ByteArray=>x.data.toList) ∘ S)=id:=by funext l;exact S_toList l
   rw [this,List.map_id]
  have h0:=hj 0 t rfl
  have hb:=k9 w _ h0
  have:=Tryz.strings_Join b o c ((t::ts).map S) sep w (fun j x hx=>by
   rw [List.getElem?_map,Option.map_eq_some_iff] at hx
   obtain ⟨t',ht',rfl⟩:=hx
   exact hj j t' ht') hb (by simpa using hn) (by simpa using hc) (by rw [hm];exact hlen)
  rw [hm,List.length_map] at this
  refine this.mono ?_
  rintro e w' ⟨rfl,hB⟩
  exact ⟨rfl,hB⟩
theorem paren_eq (l:Txt):(⟨#[40]⟩:ByteArray)++(S l)++(⟨#[41]⟩:ByteArray)=S (40::(l++[41])):=by
 apply ByteArray.ext
 apply Array.ext'
 simp [S]
theorem vw (v:Value) (ts:List Txt) (w:World) (h:TxtSl w v ts) (hn:ts.length≤1000000) (hlen:(jw ts).length≤100000000) :
  Calls Tryz.prog 138 #[v] w (Ret w (.string (S (jw ts)))):=by
 have hl:(Lib.join ts [32]).length≤100000000:=by
  have:(jw ts).length=(Lib.join ts [32]).length+2:=by simp [jw]
  omega
 have HJ:=k8 (join_any v ts ⟨#[32]⟩ w h (by omega) (by show (Lib.join ts [32]).length≤_;omega))
 have HS:Hid ((⟨#[40]⟩:ByteArray)++(S (Lib.join ts [32]))++(⟨#[41]⟩:ByteArray)=S (jw ts)):=paren_eq _
 clear h
 go_enter Tryz.func138,Tryz.ntmps138
 go_wp2_with fail
 refine HJ.out.mono ?_
 rintro e w1 ⟨rfl,hB⟩
 have HB:=k8 hB
 clear hB
 have hs1:(S (Lib.join ts [32])).size≤100000000:=by rw [S_size];exact hl
 generalize S (Lib.join ts [32])=j at *
 go_wp2
 go_ret
 exact ⟨by rw [← HS.out];rfl,HB.out⟩
end
section
open Go.RowKit
def qv (s:Shape):List Value:=[.string (S s.word),.bool s.name,.bool s.num,.int .i64 s.least,.int .i64 s.most,.bool s.thn,.bool s.other]
def qg:Array Value:=(exprShapes.flatMap qv).toArray
def stmtShapeCells:Array Value:=(stmtShapes.flatMap qv).toArray
theorem exprs_any (w:World):Calls Tryz.prog 197 #[] w fun e w'=>
  e=.returned (.slice (some ⟨w.heap.size,0,none⟩) 7 7)∧w'=w.alloc (.cells qg 212):=by
 go_enter Tryz.func197,Tryz.ntmps197
 go_wp2
 go_ret
 exact ⟨rfl,rfl⟩
theorem sorts_any (w:World):Calls Tryz.prog 187 #[] w fun e w'=>
  e=.returned (.slice (some ⟨w.heap.size,0,none⟩) 5 5)∧w'=w.alloc (.cells stmtShapeCells 212):=by
 go_enter Tryz.func187,Tryz.ntmps187
 go_wp2
 go_ret
 exact ⟨rfl,rfl⟩
theorem fits_none {sh:Shape} {s:Txt} {num:Bool} {args:Int} (h:fitOk sh s num args=false):fits sh s num args=none:=by simp [fits,h]
theorem fits_bare {sh:Shape} {s:Txt} {num:Bool} {args:Int} (h:fitOk sh s num args=true) (hn:sh.name=false):fits sh s num args=some (if sh.word=[] then [] else [sh.word]):=by simp [fits,h,hn]
theorem fits_named {sh:Shape} {s:Txt} {num:Bool} {args:Int} (h:fitOk sh s num args=true) (hn:sh.name=true):fits sh s num args=(jl s).map fun t=>(if sh.word=[] then [] else [sh.word])++[t]:=by
 simp only [fits,h,hn,if_true,jl]
 split<;>rfl
theorem yw (W:World) (base:Nat) (e:TypeId):W.ownsRow base e 1 (.slice none 0 0) 0 []:=⟨by simp,.inl ⟨rfl,rfl⟩⟩
theorem word_nil:(S []).toList.isEmpty=true:=by rw [ByteArray.toList_eq];rfl
theorem word_full (c:UInt8) (l:Txt):(S (c::l)).toList.isEmpty=false:=not_empty _ (by rw [S_size];simp)
theorem fits_any (sh:Shape) (s:ByteArray) (num:Bool) (args:Int) (w:World) (hsz:s.size≤140737488351232) (hg:Glob w) :
  Calls Tryz.prog 188 #[.agg (qv sh).toArray,.string s,.bool num,.int .i64 args] w (qi w (fits sh s.data.toList num args)):=by
 have HN:=k8 (fun (w1:World) (hb:Below w.heap.size w w1)=>named_any s w1 hsz (hg.below hb))
 have hF:∀ b,fitOk sh s.data.toList num args=b→Hid (fitOk sh s.data.toList num args=b):=fun b h=>h
 clear hg
 obtain ⟨wd,nm,nu,least,most,th,ot⟩:=sh
 simp only [fitOk] at hF
 show Calls Tryz.prog 188 #[.agg #[.string (S wd),.bool nm,.bool nu,.int .i64 least,.int .i64 most,.bool th,.bool ot],.string s,.bool num,.int .i64 args] w _
 by_cases hA:least≤args
 ·by_cases hB0:args≤most
  ·cases nm with
   | true=>
    cases nu with
    | true=>
     have HF:=(hF true (by simp [hA,hB0])).out
     have HE:=k8 (fits_named (sh:=⟨wd,true,true,least,most,th,ot⟩) HF rfl)
     clear hF HF
     cases wd with
     | nil=>
      have hwd:=word_nil
      have hwd2:(!(S []).toList.isEmpty)=false:=by rw [hwd];rfl
      go_enter Tryz.func188,Tryz.ntmps188
      go_wp2_with fail
      refine (j7 _).mono ?_
      rintro e w2 ⟨rfl,rfl⟩
      have HB3:=k8 ((wu w.heap.size w).alloc (wo _) (.cells #[.string (S []),.bool true,.bool true,.int .i64 least,.int .i64 most,.bool th,.bool ot] 212))
      go_wp2_with fail
      refine (HN.out _ HB3.out).mono ?_
      rintro e w4 ⟨hB4,he⟩
      cases hn:jl s.data.toList with
      | none=>
       rw [hn] at he
       subst he
       have HB4:=k8 (jg HB3.out HB3.out.size hB4)
       rw [hn] at HE
       clear hn hB4
       go_wp2_with fail
       exact ⟨rfl,HB4.out,by rw [HE.out];rfl⟩
      | some t=>
       rw [hn] at he
       subst he
       have HB4:=k8 (jg HB3.out HB3.out.size hB4)
       rw [hn] at HE
       clear hn hB4
       have HZ4:Hid (w.heap.size≤w4.heap.size):=HB4.out.size
       go_wp2_with (at_builtin;go_loud (refine ke _ rfl _ _ 136 9 _ 16 rfl Tryz.underlying136 jm rfl w.heap.size 0 _ _ _ ?d0 _ rfl ?dk ?d1 (yw _ w.heap.size 9) ?d2 ?d3 ?d4 ?_))
       case d0=>rfl
       case dk=>simp
       case d1=>rfl
       case d2=>exact HZ4.out
       case d3=>omega
       case d4=>decide
       intro v5 w5 ho5 hg5
       have HO5:=k8 ho5
       have HB5:=k8 (j6 HB4.out (yw _ w.heap.size 9) (wo _) HZ4.out hg5)
       clear ho5 hg5
       go_wp2
       go_ret
       exact ⟨HB5.out,by rw [HE.out];exact ⟨_,rfl,by simpa using HO5.out⟩⟩
     | cons c l=>
      have hwd:=word_full c l
      have hwd2:(!(S (c::l)).toList.isEmpty)=true:=by rw [hwd];rfl
      go_enter Tryz.func188,Tryz.ntmps188
      go_wp2_with fail
      refine (j7 _).mono ?_
      rintro e w2 ⟨rfl,rfl⟩
      have HB:=k8 ((wu w.heap.size w).alloc (wo _) (.cells #[.string (S (c::l)),.bool true,.bool true,.int .i64 least,.int .i64 most,.bool th,.bool ot] 212))
      have HZ:Hid (w.heap.size≤(w.alloc (.cells #[.string (S (c::l)),.bool true,.bool true,.int .i64 least,.int .i64 most,.bool th,.bool ot] 212)).heap.size):=HB.out.size
      go_wp2_with (at_builtin;go_loud (refine ke _ rfl _ _ 136 9 _ 16 rfl Tryz.underlying136 jm rfl w.heap.size 0 _ _ _ ?c0 _ rfl ?ck ?c1 (yw _ w.heap.size 9) ?c2 ?c3 ?c4 ?_))
      case c0=>rfl
      case ck=>simp
      case c1=>rfl
      case c2=>exact HZ.out
      case c3=>omega
      case c4=>decide
      intro v1 w3 ho3 hg3
      have HO3:=k8 ho3
      have HB3:=k8 (j6 HB.out (yw _ w.heap.size 9) (wo _) HZ.out hg3)
      have GB:=k8 hg3
      clear ho3 hg3
      have hcell:∀ o,w3.cell? ⟨w.heap.size,o,none⟩=(w.alloc (.cells #[.string (S (c::l)),.bool true,.bool true,.int .i64 least,.int .i64 most,.bool th,.bool ot] 212)).cell? ⟨w.heap.size,o,none⟩:=fun o=>World.cell?_of_block (GB.out.block _ (by simp) (by simp [Value.ownBlock]))
      have hc1:=hcell 1
      simp only [World.cell?_alloc_new] at hc1
      clear hcell
      go_wp2_with fail
      refine (HN.out _ HB3.out).mono ?_
      rintro e w4 ⟨hB4,he⟩
      cases hn:jl s.data.toList with
      | none=>
       rw [hn] at he
       subst he
       have HB4:=k8 (jg HB3.out HB3.out.size hB4)
       rw [hn] at HE
       clear hn hB4
       go_wp2_with fail
       exact ⟨rfl,HB4.out,by rw [HE.out];rfl⟩
      | some t=>
       rw [hn] at he
       subst he
       have HB4:=k8 (jg HB3.out HB3.out.size hB4)
       have HO4:=k8 (jv HO3.out hB4)
       rw [hn] at HE
       clear hn hB4
       have HZ4:Hid (w.heap.size≤w4.heap.size):=HB4.out.size
       go_wp2_with (at_builtin;go_loud (refine ke _ rfl _ _ 136 9 _ 16 rfl Tryz.underlying136 jm rfl w.heap.size (0+1) _ _ _ ?d0 _ rfl ?dk ?d1 HO4.out ?d2 ?d3 ?d4 ?_))
       case d0=>rfl
       case dk=>simp
       case d1=>rfl
       case d2=>exact HZ4.out
       case d3=>omega
       case d4=>decide
       intro v5 w5 ho5 hg5
       have HO5:=k8 ho5
       have HB5:=k8 (j6 HB4.out HO4.out (wo _) HZ4.out hg5)
       clear ho5 hg5
       go_wp2
       go_ret
       exact ⟨HB5.out,by rw [HE.out];exact ⟨_,rfl,by simpa using HO5.out⟩⟩
    | false=>
     cases num with
     | true=>
      have HE:=k8 (fits_none (show fitOk ⟨wd,true,false,least,most,th,ot⟩ s.data.toList true args=false from (hF false (by simp [hA,hB0])).out))
      clear hF
      go_enter Tryz.func188,Tryz.ntmps188
      go_wp2_with fail
      refine (zc _).mono ?_
      rintro e w2 ⟨rfl,rfl⟩
      go_wp2
      exact ⟨rfl,(wu _ _).alloc (wo _) _,by rw [HE.out]⟩
     | false=>
      have HF:=(hF true (by simp [hA,hB0])).out
      have HE:=k8 (fits_named (sh:=⟨wd,true,false,least,most,th,ot⟩) HF rfl)
      clear hF HF
      cases wd with
      | nil=>
       have hwd:=word_nil
       have hwd2:(!(S []).toList.isEmpty)=false:=by rw [hwd];rfl
       go_enter Tryz.func188,Tryz.ntmps188
       go_wp2_with fail
       refine (j7 _).mono ?_
       rintro e w2 ⟨rfl,rfl⟩
       have HB3:=k8 ((wu w.heap.size w).alloc (wo _) (.cells #[.string (S []),.bool true,.bool false,.int .i64 least,.int .i64 most,.bool th,.bool ot] 212))
       go_wp2_with fail
       refine (HN.out _ HB3.out).mono ?_
       rintro e w4 ⟨hB4,he⟩
       cases hn:jl s.data.toList with
       | none=>
        rw [hn] at he
        subst he
        have HB4:=k8 (jg HB3.out HB3.out.size hB4)
        rw [hn] at HE
        clear hn hB4
        go_wp2_with fail
        exact ⟨rfl,HB4.out,by rw [HE.out];rfl⟩
       | some t=>
        rw [hn] at he
        subst he
        have HB4:=k8 (jg HB3.out HB3.out.size hB4)
        rw [hn] at HE
        clear hn hB4
        have HZ4:Hid (w.heap.size≤w4.heap.size):=HB4.out.size
        go_wp2_with (at_builtin;go_loud (refine ke _ rfl _ _ 136 9 _ 16 rfl Tryz.underlying136 jm rfl w.heap.size 0 _ _ _ ?d0 _ rfl ?dk ?d1 (yw _ w.heap.size 9) ?d2 ?d3 ?d4 ?_))
        case d0=>rfl
        case dk=>simp
        case d1=>rfl
        case d2=>exact HZ4.out
        case d3=>omega
        case d4=>decide
        intro v5 w5 ho5 hg5
        have HO5:=k8 ho5
        have HB5:=k8 (j6 HB4.out (yw _ w.heap.size 9) (wo _) HZ4.out hg5)
        clear ho5 hg5
        go_wp2
        go_ret
        exact ⟨HB5.out,by rw [HE.out];exact ⟨_,rfl,by simpa using HO5.out⟩⟩
      | cons c l=>
       have hwd:=word_full c l
       have hwd2:(!(S (c::l)).toList.isEmpty)=true:=by rw [hwd];rfl
       go_enter Tryz.func188,Tryz.ntmps188
       go_wp2_with fail
       refine (j7 _).mono ?_
       rintro e w2 ⟨rfl,rfl⟩
       have HB:=k8 ((wu w.heap.size w).alloc (wo _) (.cells #[.string (S (c::l)),.bool true,.bool false,.int .i64 least,.int .i64 most,.bool th,.bool ot] 212))
       have HZ:Hid (w.heap.size≤(w.alloc (.cells #[.string (S (c::l)),.bool true,.bool false,.int .i64 least,.int .i64 most,.bool th,.bool ot] 212)).heap.size):=HB.out.size
       go_wp2_with (at_builtin;go_loud (refine ke _ rfl _ _ 136 9 _ 16 rfl Tryz.underlying136 jm rfl w.heap.size 0 _ _ _ ?c0 _ rfl ?ck ?c1 (yw _ w.heap.size 9) ?c2 ?c3 ?c4 ?_))
       case c0=>rfl
       case ck=>simp
       case c1=>rfl
       case c2=>exact HZ.out
       case c3=>omega
       case c4=>decide
       intro v1 w3 ho3 hg3
       have HO3:=k8 ho3
       have HB3:=k8 (j6 HB.out (yw _ w.heap.size 9) (wo _) HZ.out hg3)
       have GB:=k8 hg3
       clear ho3 hg3
       have hcell:∀ o,w3.cell? ⟨w.heap.size,o,none⟩=(w.alloc (.cells #[.string (S (c::l)),.bool true,.bool false,.int .i64 least,.int .i64 most,.bool th,.bool ot] 212)).cell? ⟨w.heap.size,o,none⟩:=fun o=>World.cell?_of_block (GB.out.block _ (by simp) (by simp [Value.ownBlock]))
       have hc1:=hcell 1
       simp only [World.cell?_alloc_new] at hc1
       clear hcell
       go_wp2_with fail
       refine (HN.out _ HB3.out).mono ?_
       rintro e w4 ⟨hB4,he⟩
       cases hn:jl s.data.toList with
       | none=>
        rw [hn] at he
        subst he
        have HB4:=k8 (jg HB3.out HB3.out.size hB4)
        rw [hn] at HE
        clear hn hB4
        go_wp2_with fail
        exact ⟨rfl,HB4.out,by rw [HE.out];rfl⟩
       | some t=>
        rw [hn] at he
        subst he
        have HB4:=k8 (jg HB3.out HB3.out.size hB4)
        have HO4:=k8 (jv HO3.out hB4)
        rw [hn] at HE
        clear hn hB4
        have HZ4:Hid (w.heap.size≤w4.heap.size):=HB4.out.size
        go_wp2_with (at_builtin;go_loud (refine ke _ rfl _ _ 136 9 _ 16 rfl Tryz.underlying136 jm rfl w.heap.size (0+1) _ _ _ ?d0 _ rfl ?dk ?d1 HO4.out ?d2 ?d3 ?d4 ?_))
        case d0=>rfl
        case dk=>simp
        case d1=>rfl
        case d2=>exact HZ4.out
        case d3=>omega
        case d4=>decide
        intro v5 w5 ho5 hg5
        have HO5:=k8 ho5
        have HB5:=k8 (j6 HB4.out HO4.out (wo _) HZ4.out hg5)
        clear ho5 hg5
        go_wp2
        go_ret
        exact ⟨HB5.out,by rw [HE.out];exact ⟨_,rfl,by simpa using HO5.out⟩⟩
   | false=>
    cases he:s.data.toList with
    | cons c0 l0=>
     have hne:s.toList.isEmpty=false:=by rw [ByteArray.toList_eq,he];rfl
     rw [he] at hF
     have HE:=k8 (fits_none (show fitOk ⟨wd,false,nu,least,most,th,ot⟩ (c0::l0) num args=false from (hF false (by simp [hA,hB0])).out))
     clear hF
     go_enter Tryz.func188,Tryz.ntmps188
     go_wp2_with fail
     refine (zc _).mono ?_
     rintro e w2 ⟨rfl,rfl⟩
     go_wp2
     exact ⟨rfl,(wu _ _).alloc (wo _) _,by rw [HE.out]⟩
    | nil=>
     have hne:s.toList.isEmpty=true:=by rw [ByteArray.toList_eq,he];rfl
     rw [he] at hF
     cases nu with
     | true=>
      have HF:=(hF true (by simp [hA,hB0])).out
      have HE:=k8 (fits_bare (sh:=⟨wd,false,true,least,most,th,ot⟩) HF rfl)
      clear hF HF
      cases wd with
      | nil=>
       have hwd:=word_nil
       have hwd2:(!(S []).toList.isEmpty)=false:=by rw [hwd];rfl
       go_enter Tryz.func188,Tryz.ntmps188
       go_wp2_with fail
       refine (j7 _).mono ?_
       rintro e w2 ⟨rfl,rfl⟩
       have HB3:=k8 ((wu w.heap.size w).alloc (wo _) (.cells #[.string (S []),.bool false,.bool true,.int .i64 least,.int .i64 most,.bool th,.bool ot] 212))
       go_wp2
       go_ret
       exact ⟨HB3.out,by rw [HE.out];exact ⟨_,rfl,by simpa using (yw _ w.heap.size 9)⟩⟩
      | cons c l=>
       have hwd:=word_full c l
       have hwd2:(!(S (c::l)).toList.isEmpty)=true:=by rw [hwd];rfl
       go_enter Tryz.func188,Tryz.ntmps188
       go_wp2_with fail
       refine (j7 _).mono ?_
       rintro e w2 ⟨rfl,rfl⟩
       have HB:=k8 ((wu w.heap.size w).alloc (wo _) (.cells #[.string (S (c::l)),.bool false,.bool true,.int .i64 least,.int .i64 most,.bool th,.bool ot] 212))
       have HZ:Hid (w.heap.size≤(w.alloc (.cells #[.string (S (c::l)),.bool false,.bool true,.int .i64 least,.int .i64 most,.bool th,.bool ot] 212)).heap.size):=HB.out.size
       go_wp2_with (at_builtin;go_loud (refine ke _ rfl _ _ 136 9 _ 16 rfl Tryz.underlying136 jm rfl w.heap.size 0 _ _ _ ?c0 _ rfl ?ck ?c1 (yw _ w.heap.size 9) ?c2 ?c3 ?c4 ?_))
       case c0=>rfl
       case ck=>simp
       case c1=>rfl
       case c2=>exact HZ.out
       case c3=>omega
       case c4=>decide
       intro v1 w3 ho3 hg3
       have HO3:=k8 ho3
       have HB3:=k8 (j6 HB.out (yw _ w.heap.size 9) (wo _) HZ.out hg3)
       have GB:=k8 hg3
       clear ho3 hg3
       have hcell:∀ o,w3.cell? ⟨w.heap.size,o,none⟩=(w.alloc (.cells #[.string (S (c::l)),.bool false,.bool true,.int .i64 least,.int .i64 most,.bool th,.bool ot] 212)).cell? ⟨w.heap.size,o,none⟩:=fun o=>World.cell?_of_block (GB.out.block _ (by simp) (by simp [Value.ownBlock]))
       have hc1:=hcell 1
       simp only [World.cell?_alloc_new] at hc1
       clear hcell
       go_wp2
       go_ret
       exact ⟨HB3.out,by rw [HE.out];exact ⟨_,rfl,by simpa using HO3.out⟩⟩
     | false=>
      cases num with
      | true=>
       have HE:=k8 (fits_none (show fitOk ⟨wd,false,false,least,most,th,ot⟩ [] true args=false from (hF false (by simp [hA,hB0])).out))
       clear hF
       go_enter Tryz.func188,Tryz.ntmps188
       go_wp2_with fail
       refine (zc _).mono ?_
       rintro e w2 ⟨rfl,rfl⟩
       go_wp2
       exact ⟨rfl,(wu _ _).alloc (wo _) _,by rw [HE.out]⟩
      | false=>
       have HF:=(hF true (by simp [hA,hB0])).out
       have HE:=k8 (fits_bare (sh:=⟨wd,false,false,least,most,th,ot⟩) HF rfl)
       clear hF HF
       cases wd with
       | nil=>
        have hwd:=word_nil
        have hwd2:(!(S []).toList.isEmpty)=false:=by rw [hwd];rfl
        go_enter Tryz.func188,Tryz.ntmps188
        go_wp2_with fail
        refine (j7 _).mono ?_
        rintro e w2 ⟨rfl,rfl⟩
        have HB3:=k8 ((wu w.heap.size w).alloc (wo _) (.cells #[.string (S []),.bool false,.bool false,.int .i64 least,.int .i64 most,.bool th,.bool ot] 212))
        go_wp2
        go_ret
        exact ⟨HB3.out,by rw [HE.out];exact ⟨_,rfl,by simpa using (yw _ w.heap.size 9)⟩⟩
       | cons c l=>
        have hwd:=word_full c l
        have hwd2:(!(S (c::l)).toList.isEmpty)=true:=by rw [hwd];rfl
        go_enter Tryz.func188,Tryz.ntmps188
        go_wp2_with fail
        refine (j7 _).mono ?_
        rintro e w2 ⟨rfl,rfl⟩
        have HB:=k8 ((wu w.heap.size w).alloc (wo _) (.cells #[.string (S (c::l)),.bool false,.bool false,.int .i64 least,.int .i64 most,.bool th,.bool ot] 212))
        have HZ:Hid (w.heap.size≤(w.alloc (.cells #[.string (S (c::l)),.bool false,.bool false,.int .i64 least,.int .i64 most,.bool th,.bool ot] 212)).heap.size):=HB.out.size
        go_wp2_with (at_builtin;go_loud (refine ke _ rfl _ _ 136 9 _ 16 rfl Tryz.underlying136 jm rfl w.heap.size 0 _ _ _ ?c0 _ rfl ?ck ?c1 (yw _ w.heap.size 9) ?c2 ?c3 ?c4 ?_))
        case c0=>rfl
        case ck=>simp
        case c1=>rfl
        case c2=>exact HZ.out
        case c3=>omega
        case c4=>decide
        intro v1 w3 ho3 hg3
        have HO3:=k8 ho3
        have HB3:=k8 (j6 HB.out (yw _ w.heap.size 9) (wo _) HZ.out hg3)
        have GB:=k8 hg3
        clear ho3 hg3
        have hcell:∀ o,w3.cell? ⟨w.heap.size,o,none⟩=(w.alloc (.cells #[.string (S (c::l)),.bool false,.bool false,.int .i64 least,.int .i64 most,.bool th,.bool ot] 212)).cell? ⟨w.heap.size,o,none⟩:=fun o=>World.cell?_of_block (GB.out.block _ (by simp) (by simp [Value.ownBlock]))
        have hc1:=hcell 1
        simp only [World.cell?_alloc_new] at hc1
        clear hcell
        go_wp2
        go_ret
        exact ⟨HB3.out,by rw [HE.out];exact ⟨_,rfl,by simpa using HO3.out⟩⟩
  ·
   have HE:=k8 (fits_none (show fitOk ⟨wd,nm,nu,least,most,th,ot⟩ s.data.toList num args=false from (hF false (by simp [hA,hB0])).out))
   clear hF
   go_enter Tryz.func188,Tryz.ntmps188
   go_wp2_with fail
   refine (zc _).mono ?_
   rintro e w2 ⟨rfl,rfl⟩
   go_wp2
   exact ⟨rfl,(wu _ _).alloc (wo _) _,by rw [HE.out]⟩
 ·
  have HE:=k8 (fits_none (show fitOk ⟨wd,nm,nu,least,most,th,ot⟩ s.data.toList num args=false from (hF false (by simp [hA])).out))
  clear hF
  go_enter Tryz.func188,Tryz.ntmps188
  go_wp2_with fail
  refine (zc _).mono ?_
  rintro e w2 ⟨rfl,rfl⟩
  go_wp2
  exact ⟨rfl,(wu _ _).alloc (wo _) _,by rw [HE.out]⟩
end
section
open Go.RowKit
def opsL:List (Txt×Int):=
 [([97,100,100],0),([115,117,98],1),([115,104,108],2),([115,108,116],3),([115,108,116,117],4),([120,111,114],5),([115,104,114],6),([115,97,114],7),
 ([111,114],8),([97,110,100],9),([109,117,108],10),([100,105,118,117],13),([114,101,109,117],15)]
theorem opCells_at:∀ (k:Nat) (x:Txt×Int),opsL[k]?=some x→opCells[k * 2]?=some (.string (S x.1))∧opCells[k * 2+1]?=some (.int .i64 x.2)∧0≤x.2∧x.2≤63:=by
 intro k x h
 have hk:k<13:=by
  have:=(List.getElem?_eq_some_iff.1 h).1
  simpa [opsL] using this
 match k,hk with
 | 0,_|1,_|2,_|3,_|4,_|5,_|6,_|7,_|8,_|9,_|10,_|11,_|12,_=>
  simp [opsL] at h
  subst h
  exact ⟨rfl,rfl,by decide,by decide⟩
theorem opWord_find (n:Int):(idxOf (fun x=>x.2 == n) opsL=-1∧xz n=none)∨∃ (k:Nat) (x:Txt×Int),opsL[k]?=some x∧idxOf (fun x=>x.2 == n) opsL=k∧xz n=some x.1:=by
 unfold xz
 by_cases h0:n=0
 ·subst h0;exact .inr ⟨0,_,rfl,rfl,rfl⟩
 by_cases h1:n=1
 ·subst h1;exact .inr ⟨1,_,rfl,rfl,rfl⟩
 by_cases h2:n=2
 ·subst h2;exact .inr ⟨2,_,rfl,rfl,rfl⟩
 by_cases h3:n=3
 ·subst h3;exact .inr ⟨3,_,rfl,rfl,rfl⟩
 by_cases h4:n=4
 ·subst h4;exact .inr ⟨4,_,rfl,rfl,rfl⟩
 by_cases h5:n=5
 ·subst h5;exact .inr ⟨5,_,rfl,rfl,rfl⟩
 by_cases h6:n=6
 ·subst h6;exact .inr ⟨6,_,rfl,rfl,rfl⟩
 by_cases h7:n=7
 ·subst h7;exact .inr ⟨7,_,rfl,rfl,rfl⟩
 by_cases h8:n=8
 ·subst h8;exact .inr ⟨8,_,rfl,rfl,rfl⟩
 by_cases h9:n=9
 ·subst h9;exact .inr ⟨9,_,rfl,rfl,rfl⟩
 by_cases h10:n=10
 ·subst h10;exact .inr ⟨10,_,rfl,rfl,rfl⟩
 by_cases h13:n=13
 ·subst h13;exact .inr ⟨11,_,rfl,rfl,rfl⟩
 by_cases h15:n=15
 ·subst h15;exact .inr ⟨12,_,rfl,rfl,rfl⟩
 refine .inl ⟨?_,by simp [*]⟩
 have:opsL.findIdx? (fun x=>x.2 == n)=none:=by
  rw [List.findIdx?_eq_none_iff]
  intro x hx
  simp only [opsL,gh,List.not_mem_nil,or_false] at hx
  rcases hx with rfl|rfl|rfl|rfl|rfl|rfl|rfl|rfl|rfl|rfl|rfl|rfl|rfl<;>simp<;>omega
 simp [idxOf,this]
def OpAt (w:World) (b o:Nat) (x:Txt×Int):Prop:=w.cell? ⟨b,o,none⟩=some (.string (S x.1))∧w.cell? ⟨b,o+1,none⟩=some (.int .i64 x.2)∧0≤x.2∧x.2≤63
def OpIs (_:World) (x:Txt×Int) (v:Value):Prop:=v=.agg #[.string (S x.1),.int .i64 x.2]∧0≤x.2∧x.2≤63
theorem cell_new1 (w:World) (o1:Obj) (cs:Array Value) (e:TypeId) (k:Nat):((w.alloc o1).alloc (.cells cs e)).cell? ⟨w.heap.size+1,k,none⟩=cs[k]?:=by
 have:=World.cell?_alloc_new (w.alloc o1) cs e k
 rwa [World.size_alloc] at this
theorem cell_new0 (w:World) (o1:Obj) (cs:Array Value) (e:TypeId) (k:Nat):((w.alloc (.cells cs e)).alloc o1).cell? ⟨w.heap.size,k,none⟩=cs[k]?:=by
 rw [World.cell?_alloc_past _ _ _ (by simp)]
 exact World.cell?_alloc_new w cs e k
theorem opName_any (n:Int) (w:World):Calls Tryz.prog 198 #[.int .u64 n] w (qe w (xz n)):=by
 have hix:∀ w1,Below (w.heap.size+2) ((w.alloc (.cells #[.int .u64 n] 35)).alloc (.cells opCells 235)) w1 →
   Calls Tryz.prog 209 #[.slice (some ⟨w.heap.size+1,0,none⟩) 13 13,.func (.func 211) #[] #[.pointer (some ⟨w.heap.size,0,none⟩)]] w1 fun e w'=>
    e=.returned (.int .i64 (idxOf (fun x=>x.2 == n) opsL))∧Below (w.heap.size+2) ((w.alloc (.cells #[.int .u64 n] 35)).alloc (.cells opCells 235)) w':=by
  intro w1 hb1
  refine index_op OpAt OpIs (fun w b o x h=>⟨S x.1,x.2,h.1,h.2.1,rfl,h.2.2⟩) (fun w'=>Below (w.heap.size+2) ((w.alloc (.cells #[.int .u64 n] 35)).alloc (.cells opCells 235)) w')
   (.slice (some ⟨w.heap.size+1,0,none⟩) 13 13) opsL 211 #[] #[.pointer (some ⟨w.heap.size,0,none⟩)] _ w1 (fun _ _=>by kernel_rfl) hb1 ?_ ?_
  ·intro w' hw'
   refine ⟨_,13,rfl,by decide,by decide,fun _=>⟨w.heap.size+1,0,rfl,fun j x hx=>?_⟩⟩
   obtain ⟨h1,h2,h3⟩:=opCells_at j x hx
   refine ⟨?_,?_,h3⟩
   ·rw [hw'.cell (by simp)]
    rw [cell_new1];simpa using h1
   ·rw [hw'.cell (by simp)]
    rw [cell_new1];simpa using h2
  ·rintro w' j x val hw' hx ⟨rfl,h0,h1⟩
   refine (opName1_any (S x.1) x.2 n w.heap.size w' h0 h1 ?_).mono ?_
   ·rw [hw'.cell (by simp)]
    rw [cell_new0];rfl
   ·rintro e w2 ⟨rfl,hB⟩
    exact ⟨rfl,hw'.trans (hB.mono (by have:=hw'.size;simp at this;omega))⟩
 have HIX:=k8 hix
 clear hix
 rcases opWord_find n with ⟨h1,h2⟩|⟨k,x,hk,h1,h2⟩
 ·rw [h1] at HIX
  have HE:=k8 h2
  clear h1 h2
  go_enter Tryz.func198,Tryz.ntmps198
  go_wp2_with fail
  refine (ops_any _).mono ?_
  rintro e w2 ⟨rfl,rfl⟩
  go_wp2_with fail
  refine (HIX.out _ (wu _ _)).mono ?_
  rintro e w3 ⟨rfl,hB⟩
  have HB:Hid (Below w.heap.size w w3):=(((wu w.heap.size w).alloc (wo _) _).alloc (by simp) _).trans (hB.mono (by omega))
  clear hB
  go_wp2_with fail
  refine (zc _).mono ?_
  rintro e w4 ⟨rfl,rfl⟩
  go_wp2
  exact ⟨rfl,HB.out,by rw [HE.out]⟩
 ·rw [h1] at HIX
  have HE:=k8 h2
  have hc:=(opCells_at k x hk).1
  have hk13:k<13:=by
   have:=(List.getElem?_eq_some_iff.1 hk).1
   simpa [opsL] using this
  clear h1 h2 hk
  go_enter Tryz.func198,Tryz.ntmps198
  go_wp2_with fail
  refine (ops_any _).mono ?_
  rintro e w2 ⟨rfl,rfl⟩
  go_wp2_with fail
  refine (HIX.out _ (wu _ _)).mono ?_
  rintro e w3 ⟨rfl,hB⟩
  have HB:Hid (Below w.heap.size w w3):=(((wu w.heap.size w).alloc (wo _) _).alloc (by simp) _).trans (hB.mono (by omega))
  clear hB HIX
  go_wp2_with fail
  refine (j7 _).mono ?_
  rintro e w4 ⟨rfl,rfl⟩
  go_wp2_with fail
  refine (ops_any _).mono ?_
  rintro e w2 ⟨rfl,rfl⟩
  have HB2:Hid (Below w.heap.size w (w3.alloc (.cells opCells 235))):=HB.out.alloc HB.out.size _
  clear HB
  go_wp2_with fail
  go_ret
  exact ⟨HB2.out,by rw [HE.out];rfl⟩
end
section
open Go.RowKit
theorem zi:Tryz.prog.follows .mixedOrders=true:=by kernel_rfl
def ShapesAt (v:Value) (w:World):Prop:=∃ b,v=.slice (some ⟨b,0,none⟩) 7 7∧∀ i u,qg[i]?=some u→w.cell? ⟨b,i,none⟩=some u
def mpShapes:MP:=⟨ShapesAt,fun v x y ⟨b,h1,h2⟩ hb=>⟨b,h1,fun i u hu=>jb hb (h2 i u hu)⟩⟩
def ShapeAtK (k:Nat) (v:Value) (w:World):Prop:=∃ b,v=.pointer (some ⟨b,k * 7,none⟩)∧∀ i u,qg[i]?=some u→w.cell? ⟨b,i,none⟩=some u
def mpShapeK (k:Nat):MP:=⟨ShapeAtK k,fun v x y ⟨b,h1,h2⟩ hb=>⟨b,h1,fun i u hu=>jb hb (h2 i u hu)⟩⟩
def mpRow (ts:List Txt) (B:Nat):MP:=⟨fun v w=>w.ownsRow B 9 1 v ts.length (ts.map fun t=>.string (S t)),fun v x y h hb=>jv h hb⟩
theorem shape_cells (k:Nat) (hk:k<7):qg[k * 7]?=some (.string (S (jk k).word))∧qg[k * 7+1]?=some (.bool (jk k).name)∧qg[k * 7+2]?=some (.bool (jk k).num) ∧
  qg[k * 7+3]?=some (.int .i64 (jk k).least)∧qg[k * 7+4]?=some (.int .i64 (jk k).most)∧qg[k * 7+5]?=some (.bool (jk k).thn)∧qg[k * 7+6]?=some (.bool (jk k).other):=by
 match k,hk with
 | 0,_|1,_|2,_|3,_|4,_|5,_|6,_=>exact ⟨rfl,rfl,rfl,rfl,rfl,rfl,rfl⟩
theorem own_one (w:World) (base:Nat) (s:ByteArray) (hb:base≤w.heap.size):(w.alloc (.cells #[.string s] 9)).ownsRow base 9 1 (.slice (some ⟨w.heap.size,0,none⟩) 1 1) 1 [.string s]:=by
 have h:=World.ownsRow_lit (base:=base) (e:=9) (size:=1) w #[.string s] 1 hb (by simp [maxLen]) (by simp)
 simpa using h
theorem vl (ts:List Txt):∀ u∈(ts.map fun t=>Value.string (S t)),u.oneCell'=true:=by
 intro u hu
 obtain ⟨t,_,rfl⟩:=List.mem_map.1 hu
 rfl
theorem opWord_len {n:Int} {t:Txt} (h:xz n=some t):t.length≤30:=by
 rcases opWord_find n with ⟨_,h2⟩|⟨k,x,hk,_,h2⟩
 ·rw [h2] at h;cases h
 ·rw [h2] at h
  injection h with h
  subst h
  have:∀ x∈opsL,x.1.length≤30:=by decide
  exact this x (gg hk)
def mpNever:MP:=⟨fun _ _=>False,fun _ _ _ h _=>h⟩
theorem exprText_none (w:World) (e:Expr) (k n:Int) (s:ByteArray) (a:Option Addr) (len c:Nat) (nb:Bool) (hnb:(n != 0)=nb) (hk:0≤k) (hk':k≤6) (hE:zp e=none) (hf:fits (jk k) s.data.toList nb len=none)
  (HFit:Hid (∀ w1,Below w.heap.size w w1→Calls Tryz.prog 188 #[.agg (qv (jk k)).toArray,.string s,.bool nb,.int .i64 len] w1 (qi w1 (fits (jk k) s.data.toList nb len)))) :
  Calls Tryz.prog 190 #[.agg #[.int .i64 k,.int .u64 n,.string s,.slice a len c]] w (qe w (zp e)):=by
 have HE:=k8 hE
 have HNb:=k8 hnb
 have hB0:=k8 ((wu w.heap.size w).alloc (wo _) (.cells #[.int .i64 k,.int .u64 n,.string s,.slice a len c] 53))
 have Hf:=k8 hf
 clear hE hf hnb
 go_enter Tryz.func190,Tryz.ntmps190
 go_wp2_with fail
 refine (j7 _).mono ?_
 rintro e w1 ⟨rfl,rfl⟩
 go_wp2_with fail
 have hf:=Hf.out
 refine wp_region_list zi [mpShapes,.is (.pointer (some ⟨w.heap.size,0,none⟩)),.is (.int .i64 k),mpShapeK k.toNat,.is (.agg (qv (jk k)).toArray),.is (.pointer (some ⟨w.heap.size,2,none⟩)),.is (.string s),.is (.pointer (some ⟨w.heap.size,1,none⟩)),.is (.int .u64 n),.is (.bool nb),.is (.pointer (some ⟨w.heap.size,3,none⟩)),.is (.slice a len c),.is (.int .i64 (len:Int)),mpNever,mpNever] (by kernel_rfl) ?_ ?_
 ·refine ⟨?_,?_,?_,?_,?_,?_,?_,?_,?_,?_,?_,?_,?_,?_,?_,trivial⟩
  ·refine jn (f:=197) rfl rfl fun x y hB hF hD=>⟨#[],?_,?_⟩
   ·simp only [execOp]
    go_simp
   ·refine (exprs_any y).mono ?_
    rintro e w' ⟨rfl,rfl⟩
    refine ⟨(wu _ _).alloc (wo _) _,.inl ⟨_,rfl,y.heap.size,rfl,fun i u hu=>?_⟩⟩
    rw [World.cell?_alloc_new];exact hu
  ·refine jc rfl rfl rfl fun x y hB hF hD=>?_
   have e1:slot x 1=.pointer (some ⟨w.heap.size,0,none⟩):=hF.at 1 rfl
   clear hB hF
   simp only [execOp,ja,e1]
   first|rfl|(go_simp;try rfl)
  ·refine jc rfl rfl rfl fun x y hB hF hD=>?_
   obtain ⟨d0,-⟩:=hD
   have e14:slot x 14=.pointer (some ⟨w.heap.size,0,none⟩):=d0 rfl
   have hc:y.cell? ⟨w.heap.size,0,none⟩=some (.int .i64 k):=(hB.cell (by simp)).trans (by simp)
   clear hB hF
   simp only [execOp,ja,e14]
   first|rfl|(go_simp;try rfl)
  ·refine zq rfl rfl fun x y hB hF hD=>?_
   obtain ⟨d0,d1,-⟩:=hD
   obtain ⟨b,e0,hcs⟩:ShapesAt (slot x 13) y:=d0 rfl
   have e1:slot x 15=.int .i64 k:=d1 rfl
   refine ⟨.pointer (some ⟨b,k.toNat * 7,none⟩),?_,b,rfl,hcs⟩
   have hk7:k<7:=by omega
   clear hcs hB hF
   simp only [execOp,ja,e0,e1]
   go_simp
  ·refine jc rfl rfl rfl fun x y hB hF hD=>?_
   obtain ⟨d0,-⟩:=hD
   obtain ⟨b,e0,hcs⟩:ShapeAtK k.toNat (slot x 16) y:=d0 rfl
   simp only [execOp,ja,e0]
   obtain ⟨kk,rfl⟩:∃ kk:Nat,k=kk:=⟨k.toNat,by omega⟩
   simp only [Int.toNat_natCast]
   have hkk:kk<7:=by omega
   obtain ⟨c0,c1,c2,c3,c4,c5,c6⟩:=shape_cells kk hkk
   have h0:=hcs _ _ c0
   have h1:=hcs _ _ c1
   have h2:=hcs _ _ c2
   have h3:=hcs _ _ c3
   have h4:=hcs _ _ c4
   have h5:=hcs _ _ c5
   have h6:=hcs _ _ c6
   clear hcs c0 c1 c2 c3 c4 c5 c6 hB hF
   go_simp
   rfl
  ·refine jc rfl rfl rfl fun x y hB hF hD=>?_
   have e1:slot x 1=.pointer (some ⟨w.heap.size,0,none⟩):=hF.at 1 rfl
   clear hB hF
   simp only [execOp,ja,e1]
   first|rfl|(go_simp;try rfl)
  ·refine jc rfl rfl rfl fun x y hB hF hD=>?_
   obtain ⟨d0,-⟩:=hD
   have e18:slot x 18=.pointer (some ⟨w.heap.size,2,none⟩):=d0 rfl
   have hc:y.cell? ⟨w.heap.size,2,none⟩=some (.string s):=(hB.cell (by simp)).trans (by simp)
   clear hB hF
   simp only [execOp,ja,e18]
   first|rfl|(go_simp;try rfl)
  ·refine jc rfl rfl rfl fun x y hB hF hD=>?_
   have e1:slot x 1=.pointer (some ⟨w.heap.size,0,none⟩):=hF.at 1 rfl
   clear hB hF
   simp only [execOp,ja,e1]
   first|rfl|(go_simp;try rfl)
  ·refine jc rfl rfl rfl fun x y hB hF hD=>?_
   obtain ⟨d0,-⟩:=hD
   have e20:slot x 20=.pointer (some ⟨w.heap.size,1,none⟩):=d0 rfl
   have hc:y.cell? ⟨w.heap.size,1,none⟩=some (.int .u64 n):=(hB.cell (by simp)).trans (by simp)
   clear hB hF
   simp only [execOp,ja,e20]
   first|rfl|(go_simp;try rfl)
  ·refine jc rfl rfl rfl fun x y hB hF hD=>?_
   obtain ⟨d0,-⟩:=hD
   have e21:slot x 21=.int .u64 n:=d0 rfl
   clear hB hF
   simp only [execOp,ja,e21]
   have hn:=HNb.out
   go_simp
  ·refine jc rfl rfl rfl fun x y hB hF hD=>?_
   have e1:slot x 1=.pointer (some ⟨w.heap.size,0,none⟩):=hF.at 1 rfl
   clear hB hF
   simp only [execOp,ja,e1]
   first|rfl|(go_simp;try rfl)
  ·refine jc rfl rfl rfl fun x y hB hF hD=>?_
   obtain ⟨d0,-⟩:=hD
   have e23:slot x 23=.pointer (some ⟨w.heap.size,3,none⟩):=d0 rfl
   have hc:y.cell? ⟨w.heap.size,3,none⟩=some (.slice a len c):=(hB.cell (by simp)).trans (by simp)
   clear hB hF
   simp only [execOp,ja,e23]
   first|rfl|(go_simp;try rfl)
  ·refine jc rfl rfl rfl fun x y hB hF hD=>?_
   obtain ⟨d0,-⟩:=hD
   have e24:slot x 24=.slice a len c:=d0 rfl
   have g24:=jh e24
   clear hB hF e24
   simp only [execOp]
   simp [go_sem,g24]
  ·refine jn (f:=188) rfl rfl fun x y hB hF hD=>⟨#[.agg (qv (jk k)).toArray,.string s,.bool nb,.int .i64 len],?_,?_⟩
   ·obtain ⟨d0,d1,d2,d3,-⟩:=hD
    have e17:slot x 17=.agg (qv (jk k)).toArray:=d0 rfl
    have e19:slot x 19=.string s:=d1 rfl
    have e22:slot x 22=.bool nb:=d2 rfl
    have e25:slot x 25=.int .i64 len:=d3 rfl
    have g17:=jh e17
    have g19:=jh e19
    have g22:=jh e22
    have g25:=jh e25
    clear hB hF e17 e19 e22 e25
    simp only [execOp]
    simp [g17,g19,g22,g25,go_sem]
   ·refine (HFit.out y (hB0.out.trans (hB.mono (by simp)))).mono ?_
    rintro e w' ⟨hb,he⟩
    rw [hf] at he
    subst he
    refine ⟨hb,.inr ⟨_,rfl,?_⟩⟩
    refine ⟨hF.defers,hB0.out.trans ((hB.trans (hb.mono hB.size)).mono (by simp)),?_⟩
    rw [HE.out]
  ·refine zq rfl rfl fun x y hB hF hD=>?_
   obtain ⟨d0,-⟩:=hD
   exact ⟨slot x 26,by simp only [execOp,ja];rfl,d0 rfl⟩
 ·intro x y hB hF hP
  exact False.elim hP.2.2.2.2.2.2.2.2.2.2.2.2.2.1
theorem exprText_some (w:World) (e:Expr) (k n:Int) (s:ByteArray) (a:Option Addr) (len c:Nat) (nb:Bool) (hnb:(n != 0)=nb) (hk:0≤k) (hk':k≤6) (words:List Txt) (hf:fits (jk k) s.data.toList nb len=some words)
  (HFit:Hid (∀ w1,Below w.heap.size w w1→Calls Tryz.prog 188 #[.agg (qv (jk k)).toArray,.string s,.bool nb,.int .i64 len] w1 (qi w1 (fits (jk k) s.data.toList nb len))))
  (xs:List Expr) (HG:Hid (Glob w)) (hU0:0≤n) (hU1:n<18446744073709551616)
  (Hall:Hid (∀ w1,Below w.heap.size w w1→Calls Tryz.prog 189 #[.slice a len c,.func (.func 190) #[] #[]] w1 (qi w1 (ju xs))))
  (hT0:k=0→zp e=some (Lib.decDigits n.toNat)) (hT1:k=1→∃ t,words=[t]∧zp e=some t) (hT3:k=3→zp e=(xz n).bind fun t=>(ju xs).bind fun ts=>some (jw (t::ts)))
  (hTw:¬ k=0→¬ k=1→¬ k=3→zp e=(ju xs).bind fun ts=>some (jw (words++ts)))
  (HWl:Hid (words.length≤2∧∀ t∈words,t.length≤30))
  (hLen:∀ (o:Option (List Txt)) (ts:List Txt),ju xs=some ts→ts.length≤100000∧∀ ws:List Txt,ws.length≤2→(∀ t∈ws,t.length≤30)→(jw (ws++ts)).length≤100000000) :
  Calls Tryz.prog 190 #[.agg #[.int .i64 k,.int .u64 n,.string s,.slice a len c]] w (qe w (zp e)):=by
 have HNb:=k8 hnb
 have hB0:=k8 ((wu w.heap.size w).alloc (wo _) (.cells #[.int .i64 k,.int .u64 n,.string s,.slice a len c] 53))
 have Hf:=k8 hf
 clear hf hnb
 go_enter Tryz.func190,Tryz.ntmps190
 go_wp2_with fail
 refine (j7 _).mono ?_
 rintro e w1 ⟨rfl,rfl⟩
 go_wp2_with fail
 have hf:=Hf.out
 refine wp_region_list zi [mpShapes,.is (.pointer (some ⟨w.heap.size,0,none⟩)),.is (.int .i64 k),mpShapeK k.toNat,.is (.agg (qv (jk k)).toArray),.is (.pointer (some ⟨w.heap.size,2,none⟩)),.is (.string s),.is (.pointer (some ⟨w.heap.size,1,none⟩)),.is (.int .u64 n),.is (.bool nb),.is (.pointer (some ⟨w.heap.size,3,none⟩)),.is (.slice a len c),.is (.int .i64 (len:Int)),mpRow words w.heap.size,mpRow words w.heap.size] (by kernel_rfl) ?_ ?_
 ·refine ⟨?_,?_,?_,?_,?_,?_,?_,?_,?_,?_,?_,?_,?_,?_,?_,trivial⟩
  ·refine jn (f:=197) rfl rfl fun x y hB hF hD=>⟨#[],?_,?_⟩
   ·simp only [execOp]
    go_simp
   ·refine (exprs_any y).mono ?_
    rintro e w' ⟨rfl,rfl⟩
    refine ⟨(wu _ _).alloc (wo _) _,.inl ⟨_,rfl,y.heap.size,rfl,fun i u hu=>?_⟩⟩
    rw [World.cell?_alloc_new];exact hu
  ·refine jc rfl rfl rfl fun x y hB hF hD=>?_
   have e1:slot x 1=.pointer (some ⟨w.heap.size,0,none⟩):=hF.at 1 rfl
   clear hB hF
   simp only [execOp,ja,e1]
   first|rfl|(go_simp;try rfl)
  ·refine jc rfl rfl rfl fun x y hB hF hD=>?_
   obtain ⟨d0,-⟩:=hD
   have e14:slot x 14=.pointer (some ⟨w.heap.size,0,none⟩):=d0 rfl
   have hc:y.cell? ⟨w.heap.size,0,none⟩=some (.int .i64 k):=(hB.cell (by simp)).trans (by simp)
   clear hB hF
   simp only [execOp,ja,e14]
   first|rfl|(go_simp;try rfl)
  ·refine zq rfl rfl fun x y hB hF hD=>?_
   obtain ⟨d0,d1,-⟩:=hD
   obtain ⟨b,e0,hcs⟩:ShapesAt (slot x 13) y:=d0 rfl
   have e1:slot x 15=.int .i64 k:=d1 rfl
   refine ⟨.pointer (some ⟨b,k.toNat * 7,none⟩),?_,b,rfl,hcs⟩
   have hk7:k<7:=by omega
   clear hcs hB hF
   simp only [execOp,ja,e0,e1]
   go_simp
  ·refine jc rfl rfl rfl fun x y hB hF hD=>?_
   obtain ⟨d0,-⟩:=hD
   obtain ⟨b,e0,hcs⟩:ShapeAtK k.toNat (slot x 16) y:=d0 rfl
   simp only [execOp,ja,e0]
   obtain ⟨kk,rfl⟩:∃ kk:Nat,k=kk:=⟨k.toNat,by omega⟩
   simp only [Int.toNat_natCast]
   have hkk:kk<7:=by omega
   obtain ⟨c0,c1,c2,c3,c4,c5,c6⟩:=shape_cells kk hkk
   have h0:=hcs _ _ c0
   have h1:=hcs _ _ c1
   have h2:=hcs _ _ c2
   have h3:=hcs _ _ c3
   have h4:=hcs _ _ c4
   have h5:=hcs _ _ c5
   have h6:=hcs _ _ c6
   clear hcs c0 c1 c2 c3 c4 c5 c6 hB hF
   go_simp
   rfl
  ·refine jc rfl rfl rfl fun x y hB hF hD=>?_
   have e1:slot x 1=.pointer (some ⟨w.heap.size,0,none⟩):=hF.at 1 rfl
   clear hB hF
   simp only [execOp,ja,e1]
   first|rfl|(go_simp;try rfl)
  ·refine jc rfl rfl rfl fun x y hB hF hD=>?_
   obtain ⟨d0,-⟩:=hD
   have e18:slot x 18=.pointer (some ⟨w.heap.size,2,none⟩):=d0 rfl
   have hc:y.cell? ⟨w.heap.size,2,none⟩=some (.string s):=(hB.cell (by simp)).trans (by simp)
   clear hB hF
   simp only [execOp,ja,e18]
   first|rfl|(go_simp;try rfl)
  ·refine jc rfl rfl rfl fun x y hB hF hD=>?_
   have e1:slot x 1=.pointer (some ⟨w.heap.size,0,none⟩):=hF.at 1 rfl
   clear hB hF
   simp only [execOp,ja,e1]
   first|rfl|(go_simp;try rfl)
  ·refine jc rfl rfl rfl fun x y hB hF hD=>?_
   obtain ⟨d0,-⟩:=hD
   have e20:slot x 20=.pointer (some ⟨w.heap.size,1,none⟩):=d0 rfl
   have hc:y.cell? ⟨w.heap.size,1,none⟩=some (.int .u64 n):=(hB.cell (by simp)).trans (by simp)
   clear hB hF
   simp only [execOp,ja,e20]
   first|rfl|(go_simp;try rfl)
  ·refine jc rfl rfl rfl fun x y hB hF hD=>?_
   obtain ⟨d0,-⟩:=hD
   have e21:slot x 21=.int .u64 n:=d0 rfl
   clear hB hF
   simp only [execOp,ja,e21]
   have hn:=HNb.out
   go_simp
  ·refine jc rfl rfl rfl fun x y hB hF hD=>?_
   have e1:slot x 1=.pointer (some ⟨w.heap.size,0,none⟩):=hF.at 1 rfl
   clear hB hF
   simp only [execOp,ja,e1]
   first|rfl|(go_simp;try rfl)
  ·refine jc rfl rfl rfl fun x y hB hF hD=>?_
   obtain ⟨d0,-⟩:=hD
   have e23:slot x 23=.pointer (some ⟨w.heap.size,3,none⟩):=d0 rfl
   have hc:y.cell? ⟨w.heap.size,3,none⟩=some (.slice a len c):=(hB.cell (by simp)).trans (by simp)
   clear hB hF
   simp only [execOp,ja,e23]
   first|rfl|(go_simp;try rfl)
  ·refine jc rfl rfl rfl fun x y hB hF hD=>?_
   obtain ⟨d0,-⟩:=hD
   have e24:slot x 24=.slice a len c:=d0 rfl
   have g24:=jh e24
   clear hB hF e24
   simp only [execOp]
   simp [go_sem,g24]
  ·refine jn (f:=188) rfl rfl fun x y hB hF hD=>⟨#[.agg (qv (jk k)).toArray,.string s,.bool nb,.int .i64 len],?_,?_⟩
   ·obtain ⟨d0,d1,d2,d3,-⟩:=hD
    have e17:slot x 17=.agg (qv (jk k)).toArray:=d0 rfl
    have e19:slot x 19=.string s:=d1 rfl
    have e22:slot x 22=.bool nb:=d2 rfl
    have e25:slot x 25=.int .i64 len:=d3 rfl
    have g17:=jh e17
    have g19:=jh e19
    have g22:=jh e22
    have g25:=jh e25
    clear hB hF e17 e19 e22 e25
    simp only [execOp]
    simp [g17,g19,g22,g25,go_sem]
   ·refine (HFit.out y (hB0.out.trans (hB.mono (by simp)))).mono ?_
    rintro e w' ⟨hb,he⟩
    rw [hf] at he
    obtain ⟨v,rfl,hrow⟩:=he
    exact ⟨hb,.inl ⟨v,rfl,yk hrow (by have:=hB.size;simp at this;omega)⟩⟩
  ·refine zq rfl rfl fun x y hB hF hD=>?_
   obtain ⟨d0,-⟩:=hD
   exact ⟨slot x 26,by simp only [execOp,ja];rfl,d0 rfl⟩
 ·intro x y hB hF hP
  obtain ⟨p0,p1,p2,p3,p4,p5,p6,p7,p8,p9,p10,p11,p12,p13,p14,-⟩:=hP
  have hx:=jj hF [(13,slot x 13),(14,.pointer (some ⟨w.heap.size,0,none⟩)),(15,.int .i64 k),(16,slot x 16),(17,.agg (qv (jk k)).toArray),(18,.pointer (some ⟨w.heap.size,2,none⟩)),(19,.string s),(20,.pointer (some ⟨w.heap.size,1,none⟩)),(21,.int .u64 n),(22,.bool nb),(23,.pointer (some ⟨w.heap.size,3,none⟩)),(24,.slice a len c),(25,.int .i64 (len:Int)),(26,slot x 26),(3,slot x 3)] rfl ⟨rfl,p1,p2,rfl,p4,p5,p6,p7,p8,p9,p10,p11,p12,rfl,rfl,trivial⟩
  have HR:=k8 (show y.ownsRow w.heap.size 9 1 (slot x 3) words.length (words.map fun t=>.string (S t)) from p14)
  have HB:=k8 (hB0.out.trans (hB.mono (by simp)))
  have HC0:=k8 ((hB.cell (by simp)).trans (by simp):y.cell? ⟨w.heap.size,0,none⟩=some (.int .i64 k))
  have HC1:=k8 ((hB.cell (by simp)).trans (by simp):y.cell? ⟨w.heap.size,1,none⟩=some (.int .u64 n))
  have HC3:=k8 ((hB.cell (by simp)).trans (by simp):y.cell? ⟨w.heap.size,3,none⟩=some (.slice a len c))
  clear hB hF p0 p1 p2 p3 p4 p5 p6 p7 p8 p9 p10 p11 p12 p13 p14
  generalize slot x 3=v3 at *
  generalize slot x 26=v26 at *
  generalize slot x 16=v16 at *
  generalize slot x 13=v13 at *
  subst hx
  simp only [puts,Act.put]
  have hc0:y.cell? ⟨w.heap.size,0,none⟩=some (.int .i64 k):=HC0.out
  have hc1:y.cell? ⟨w.heap.size,1,none⟩=some (.int .u64 n):=HC1.out
  have hc3:y.cell? ⟨w.heap.size,3,none⟩=some (.slice a len c):=HC3.out
  have hzy:=HB.out.size
  have hly:w.heap.size<y.heap.size:=k9 y _ hc0
  by_cases k0:k=0
  ·have t0:(k == 0)=true:=by simp [k0]
   have HT:=k8 (hT0 k0)
   clear k0
   go_wp2_with fail
   refine (digits_any n hU0 hU1 y (HG.out.below HB.out)).mono ?_
   rintro e w2 ⟨rfl,hB2⟩
   have HB2:=k8 (jg HB.out hzy hB2)
   clear hB2
   go_wp2_with fail
   go_ret
   exact ⟨HB2.out,by rw [HT.out];rfl⟩
  by_cases k1:k=1
  ·have t0:(k == 0)=false:=by simp [k1]
   have t1:(k == 1)=true:=by simp [k1]
   obtain ⟨t,ht,hte⟩:=hT1 k1
   subst ht
   have HT:=k8 hte
   obtain ⟨g,cap,rfl,hg1,hg2⟩:=HR.out.form (by simp)
   have hcell:y.cell? ⟨g,0,none⟩=some (.string (S t)):=HR.out.cells (g:=g) rfl 0 (.string (S t)) rfl
   simp only [List.length_singleton] at *
   clear k0 k1 hte
   go_wp2_with fail
   go_ret
   exact ⟨HB.out,by rw [HT.out];rfl⟩
  have t0:(k == 0)=false:=by simp [k0]
  have t1:(k == 1)=false:=by simp [k1]
  by_cases k3:k=3
  ·have t3:(k == 3)=true:=by simp [k3]
   have HT:=k8 (hT3 k3)
   clear k0 k1 k3
   go_wp2_with fail
   refine (opName_any n y).mono ?_
   rintro e w2 ⟨hB2,he⟩
   have HB2:=k8 (jg HB.out hzy hB2)
   have hc3':=jb hB2 hc3
   clear hB2
   cases ho:xz n with
   | none=>
    rw [ho] at he HT
    subst he
    have HE:Hid (zp e=none):=HT.out
    clear ho
    go_wp2_with fail
    exact ⟨rfl,HB2.out,by rw [HE.out]⟩
   | some t=>
    rw [ho] at he HT
    subst he
    have hz2:=HB2.out.size
    have HO2:=k8 (own_one w2 w.heap.size (S t) hz2)
    have hl2:w.heap.size<w2.heap.size:=k9 w2 _ hc3'
    have HOL:=k8 (opWord_len ho)
    clear ho hc0 hc1 hc3 hz2
    go_wp2_with fail
    refine (Hall.out _ (HB2.out.alloc HB2.out.size _)).mono ?_
    rintro e w3 ⟨hB3,he⟩
    have HB3:=k8 (jg (HB2.out.alloc HB2.out.size _) (by have:=HB2.out.size;simp;omega) hB3)
    have HO3:=k8 (jv HO2.out hB3)
    clear hB3
    cases hx:ju xs with
    | none=>
     rw [hx] at he HT
     subst he
     clear hx
     go_wp2_with fail
     exact ⟨rfl,HB3.out,by rw [HT.out];rfl⟩
    | some ts=>
     rw [hx] at he HT
     obtain ⟨vt,rfl,hrow⟩:=he
     have HS3:=k8 hrow
     have HLN:=k8 (hLen none _ hx)
     clear hx hrow
     go_wp2_with (at_builtin;refine yj _ rfl _ _ 136 9 _ 16 rfl Tryz.underlying136 jm rfl w.heap.size _ 1 _ _ _ _ _ ?c0 ?c1 HO3.out HS3.out ?c2 ?c3 ?c4 ?c5 ?_)
     case c0=>rfl
     case c1=>rfl
     case c2=>exact vl _
     case c3=>exact HB3.out.size
     case c4=>have:=HLN.out.1;omega
     case c5=>decide
     intro v5 w5 ho5 hg5
     have HO5:=k8 (qc (ts:=t::ts) (by simpa [Nat.add_comm] using ho5) rfl)
     have HB5:=k8 (j6 HB3.out HO3.out (wo _) HB3.out.size hg5)
     clear ho5 hg5
     go_wp2_with fail
     refine (vw v5 (t::ts) w5 HO5.out (by have:=HLN.out.1;simp;omega) (HLN.out.2 [t] (by simp) (by simpa using HOL.out))).mono ?_
     rintro e w6 ⟨rfl,hB6⟩
     have HB6:=k8 (jg HB5.out HB5.out.size hB6)
     clear hB6
     go_wp2_with fail
     go_ret
     exact ⟨HB6.out,by rw [HT.out];rfl⟩
  ·have t3:(k == 3)=false:=by simp [k3]
   have HT:=k8 (hTw k0 k1 k3)
   clear k0 k1 k3
   go_wp2_with fail
   refine (Hall.out _ HB.out).mono ?_
   rintro e w3 ⟨hB3,he⟩
   have HB3:=k8 (jg HB.out HB.out.size hB3)
   have HO3:=k8 (jv HR.out hB3)
   clear hB3
   cases hx:ju xs with
   | none=>
    rw [hx] at he HT
    subst he
    clear hx
    go_wp2_with fail
    exact ⟨rfl,HB3.out,by rw [HT.out];rfl⟩
   | some ts=>
    rw [hx] at he HT
    obtain ⟨vt,rfl,hrow⟩:=he
    have HS3:=k8 hrow
    have HLN:=k8 (hLen none _ hx)
    clear hx hrow
    go_wp2_with (at_builtin;refine yj _ rfl _ _ 136 9 _ 16 rfl Tryz.underlying136 jm rfl w.heap.size _ words.length _ _ _ _ _ ?d0 ?d1 HO3.out HS3.out ?d2 ?d3 ?d4 ?d5 ?_)
    case d0=>rfl
    case d1=>rfl
    case d2=>exact vl _
    case d3=>exact HB3.out.size
    case d4=>have:=HLN.out.1;have:=HWl.out;omega
    case d5=>decide
    intro v5 w5 ho5 hg5
    have HO5:=k8 (qc (ts:=words++ts) (by simpa using ho5) (by simp))
    have HB5:=k8 (j6 HB3.out HO3.out (wo _) HB3.out.size hg5)
    clear ho5 hg5
    go_wp2_with fail
    refine (vw v5 (words++ts) w5 HO5.out (by have:=HLN.out.1;have:=HWl.out;simp;omega) (HLN.out.2 words HWl.out.1 HWl.out.2)).mono ?_
    rintro e w6 ⟨rfl,hB6⟩
    have HB6:=k8 (jg HB5.out HB5.out.size hB6)
    clear hB6
    go_wp2_with fail
    go_ret
    exact ⟨HB6.out,by rw [HT.out];rfl⟩
end
section
def tl:List Txt→Nat
 | []=>0
 | t::ts=>t.length+1+tl ts
theorem xw:∀ (a b:List Txt),tl (a++b)=tl a+tl b
 | [],b=>by simp [tl]
 | t::a,b=>by simp only [List.cons_append,tl,xw a b];omega
theorem join_len (c:UInt8):∀ (ts:List Txt),(Lib.join ts [c]).length≤tl ts
 | []=>by simp [Lib.join,tl,List.intercalate]
 | [t]=>by simp [Lib.join,tl,List.intercalate]
 | t::u::ts=>by
  have ih:=join_len c (u::ts)
  have h:Lib.join (t::u::ts) [c]=t++[c]++Lib.join (u::ts) [c]:=by simp [Lib.join,List.intercalate,List.intersperse]
  rw [h]
  simp only [List.length_append,List.length_singleton,tl] at ih ⊢
  omega
theorem vo (ts:List Txt):(jw ts).length≤tl ts+2:=by
 have:=join_len 32 ts
 simp only [jw,List.length_cons,List.length_append,List.length_nil]
 omega
theorem dec_len:∀ (k n:Nat),n<10 ^ (k+1)→(Lib.decDigits n).length≤k+1
 | 0,n,h=>by rw [Lib.decDigits,dif_pos (by simpa using h)];simp
 | k+1,n,h=>by
  rw [Lib.decDigits]
  split
  ·simp
  ·have:=dec_len k (n / 10) (by rw [Nat.div_lt_iff_lt_mul (by omega)];rw [Nat.pow_succ] at h;exact h)
   simp only [List.length_append,List.length_singleton]
   omega
theorem dec_len64 (n:Nat) (h:n<18446744073709551616):(Lib.decDigits n).length≤20:=dec_len 19 n (by omega)
theorem nameOk_le {s:Txt} (h:nameOk s=true):s.length≤24:=by
 simp only [nameOk,Bool.and_eq_true,decide_eq_true_eq] at h
 exact h.1.1.2
theorem words_len (k:Int):(jk k).word.length≤6:=by
 unfold jk
 generalize k.toNat=i
 rcases Nat.lt_or_ge i 7 with h|h
 ·match i,h with
  | 0,_|1,_|2,_|3,_|4,_|5,_|6,_=>decide
 ·rw [List.getD_eq_getElem?_getD,List.getElem?_eq_none (by simpa [exprShapes] using h)]
  decide
theorem stmtWord_len (k:Int):(js k).word.length≤6:=by
 unfold js
 generalize k.toNat=i
 rcases Nat.lt_or_ge i 5 with h|h
 ·match i,h with
  | 0,_|1,_|2,_|3,_|4,_=>decide
 ·rw [List.getD_eq_getElem?_getD,List.getElem?_eq_none (by simpa [stmtShapes] using h)]
  decide
theorem fits_len {sh:Shape} {s:Txt} {b:Bool} {n:Int} {ws:List Txt} (hw:sh.word.length≤6) (h:fits sh s b n=some ws):ws.length≤2∧∀ t∈ws,t.length≤30:=by
 unfold fits at h
 split at h
 ·split at h
  ·split at h
   ·rename_i hn
    injection h with h
    subst h
    have:=nameOk_le hn
    constructor
    ·simp only [List.length_append,List.length_singleton];split<;>simp
    ·intro t ht
     simp only [gi,wy] at ht
     rcases ht with ht|rfl
     ·split at ht
      ·cases ht
      ·simp only [wy] at ht;subst ht;omega
     ·omega
   ·cases h
  ·injection h with h
   subst h
   constructor
   ·split<;>simp
   ·intro t ht
    split at ht
    ·cases ht
    ·simp only [wy] at ht;subst ht;omega
 ·cases h
theorem fits_var {s:Txt} {b:Bool} {n:Int} {ws:List Txt} (h:fits ⟨[],true,false,0,0,false,false⟩ s b n=some ws):∃ t,ws=[t]:=by
 by_cases h1:fitOk ⟨[],true,false,0,0,false,false⟩ s b n=true
 ·by_cases h2:nameOk s=true
  ·simp [fits,h1,h2] at h
   exact ⟨s,h.symm⟩
  ·simp [fits,h1,h2] at h
 ·simp [fits,h1] at h
theorem tl_le:∀ (ws:List Txt),(∀ t∈ws,t.length≤30)→tl ws≤31 * ws.length
 | [],_=>by simp [tl]
 | t::ws,h=>by
  have h1:=h t (by simp)
  have h2:=tl_le ws (fun u hu=>h u (by simp [hu]))
  simp only [tl,List.length_cons]
  omega
theorem wtEs_len:∀ (l:List Expr),l.length≤wtEs l
 | []=>by simp [wtEs]
 | e::l=>by
  have:=wtEs_len l
  have h1:1≤e.wt:=by obtain ⟨k,n,s,gk⟩:=e;rw [Expr.wt];omega
  simp only [wtEs,List.length_cons];omega
theorem wtEs_mem:∀ (l:List Expr) (x:Expr),x∈l→x.wt≤wtEs l
 | [],_,h=>by cases h
 | e::l,x,h=>by
  rcases gh.1 h with rfl|h
  ·simp [wtEs]
  ·have:=wtEs_mem l x h
   simp only [wtEs];omega
theorem opWord_len' {n:Int} {t:Txt} (h:xz n=some t):t.length≤5:=by
 unfold xz at h
 by_cases h0:n=0
 ·rw [if_pos h0] at h;injection h with h;subst h;decide
 rw [if_neg h0] at h
 by_cases h1:n=1
 ·rw [if_pos h1] at h;injection h with h;subst h;decide
 rw [if_neg h1] at h
 by_cases h2:n=2
 ·rw [if_pos h2] at h;injection h with h;subst h;decide
 rw [if_neg h2] at h
 by_cases h3:n=3
 ·rw [if_pos h3] at h;injection h with h;subst h;decide
 rw [if_neg h3] at h
 by_cases h4:n=4
 ·rw [if_pos h4] at h;injection h with h;subst h;decide
 rw [if_neg h4] at h
 by_cases h5:n=5
 ·rw [if_pos h5] at h;injection h with h;subst h;decide
 rw [if_neg h5] at h
 by_cases h6:n=6
 ·rw [if_pos h6] at h;injection h with h;subst h;decide
 rw [if_neg h6] at h
 by_cases h7:n=7
 ·rw [if_pos h7] at h;injection h with h;subst h;decide
 rw [if_neg h7] at h
 by_cases h8:n=8
 ·rw [if_pos h8] at h;injection h with h;subst h;decide
 rw [if_neg h8] at h
 by_cases h9:n=9
 ·rw [if_pos h9] at h;injection h with h;subst h;decide
 rw [if_neg h9] at h
 by_cases h10:n=10
 ·rw [if_pos h10] at h;injection h with h;subst h;decide
 rw [if_neg h10] at h
 by_cases h13:n=13
 ·rw [if_pos h13] at h;injection h with h;subst h;decide
 rw [if_neg h13] at h
 by_cases h15:n=15
 ·rw [if_pos h15] at h;injection h with h;subst h;decide
 rw [if_neg h15] at h
 cases h
mutual
def Expr.nums:Expr→Prop
 | ⟨_,n,_,gk⟩=>U64 n∧numsEs gk
def numsEs:List Expr→Prop
 | []=>True
 | e::es=>e.nums∧numsEs es
end
mutual
theorem exprText_len:∀ (e:Expr) (t:Txt),e.nums→zp e=some t→t.length+1≤70 * e.wt
 | ⟨k,n,s,gk⟩,t,hn,h=>by
  rw [Expr.nums] at hn
  obtain ⟨hn,hns⟩:=hn
  rw [zp] at h
  rw [Expr.wt]
  split at h
  ·cases hf:fits (jk k) s.data.toList (decide (n≠0)) gk.length with
   | none=>rw [hf] at h;cases h
   | some words=>
    rw [hf] at h
    simp only [Option.bind_some] at h
    have hw:=fits_len (words_len k) hf
    split at h
    ·injection h with h
     subst h
     have:=dec_len64 n.toNat (by unfold U64 at hn;omega)
     omega
    ·split at h
     ·injection h with h
      subst h
      have:(words.getD 0 []).length≤30:=by
       cases words with
       | nil=>simp
       | cons u us=>exact hw.2 u (by simp)
      omega
     ·have key:∀ ws:List Txt,ws.length≤2→(∀ u∈ws,u.length≤30)→((ju gk).bind fun ts=>some (jw (ws++ts)))=some t→t.length+1≤70 * (1+s.size+wtEs gk):=by
       intro ws h1 h2 h3
       cases hts:ju gk with
       | none=>rw [hts] at h3;cases h3
       | some ts=>
        rw [hts] at h3
        simp only [Option.bind_some,Option.some.injEq] at h3
        subst h3
        have h4:=exprTexts_len gk ts hns hts
        have h5:=vo (ws++ts)
        have h6:=tl_le ws h2
        rw [xw] at h5
        have h7:31 * ws.length≤62:=by omega
        omega
      split at h
      ·cases ho:xz n with
       | none=>rw [ho] at h;cases h
       | some o=>
        rw [ho] at h
        have:=opWord_len' ho
        exact key [o] (by simp) (by simp;omega) h
      ·exact key words hw.1 hw.2 h
  ·cases h
theorem exprTexts_len:∀ (l:List Expr) (ts:List Txt),numsEs l→ju l=some ts→tl ts≤70 * wtEs l
 | [],ts,_,h=>by
  rw [ju] at h
  injection h with h
  subst h
  simp [tl]
 | e::l,ts,hn,h=>by
  rw [numsEs] at hn
  rw [ju] at h
  rw [wtEs]
  cases ht:zp e with
  | none=>rw [ht] at h;cases h
  | some t=>
   rw [ht] at h
   cases hts:ju l with
   | none=>rw [hts] at h;cases h
   | some us=>
    rw [hts] at h
    simp only [Option.bind_some,Option.some.injEq] at h
    subst h
    have h1:=exprText_len e t hn.1 ht
    have h2:=exprTexts_len l us hn.2 hts
    simp only [tl]
    omega
end
theorem exprTexts_count:∀ (l:List Expr) (ts:List Txt),ju l=some ts→ts.length=l.length
 | [],ts,h=>by rw [ju] at h;injection h with h;subst h;rfl
 | e::l,ts,h=>by
  rw [ju] at h
  cases ht:zp e with
  | none=>rw [ht] at h;cases h
  | some t=>
   rw [ht] at h
   cases hts:ju l with
   | none=>rw [hts] at h;cases h
   | some us=>
    rw [hts] at h
    simp only [Option.bind_some,Option.some.injEq] at h
    subst h
    simp [exprTexts_count l us hts]
end
section
open Go.RowKit
mutual
theorem zo.nums {w:World}:∀ (e:Expr) (b o:Nat),zo w b o e→e.nums
 | ⟨k,n,s,xs⟩,b,o,h=>by
  rw [zo] at h
  obtain ⟨_,_,_,hn,_,a,c,_,_,_,hr⟩:=h
  rw [Expr.nums]
  refine ⟨hn,?_⟩
  cases xs with
  | nil=>rw [numsEs];trivial
  | cons e xs=>
   obtain ⟨b',o',_,hr'⟩:=hr (by simp)
   exact yt.nums (e::xs) b' o' hr'
theorem yt.nums {w:World}:∀ (l:List Expr) (b o:Nat),yt w b o l→numsEs l
 | [],_,_,_=>by rw [numsEs];trivial
 | e::l,b,o,h=>by
  rw [yt] at h
  rw [numsEs]
  exact ⟨zo.nums e b o h.1,yt.nums l b (o+4) h.2⟩
end
theorem Sl.nums {w:World} {v:Value} {l:List Expr} (h:Sl 4 (zo w) v l):numsEs l:=by
 obtain ⟨a,c,_,_,_,hr⟩:=h
 cases l with
 | nil=>rw [numsEs];trivial
 | cons e l=>
  obtain ⟨b,o,_,hr⟩:=hr (by simp)
  exact yt.nums _ b o ((exprsAt_row w b _ o).2 hr)
theorem exprText_out (w:World) (k n:Int) (s:ByteArray) (a:Option Addr) (len c:Nat) (e:Expr) (hE:zp e=none) (hk:k<0∨6<k) :
  Calls Tryz.prog 190 #[.agg #[.int .i64 k,.int .u64 n,.string s,.slice a len c]] w (qe w (zp e)):=by
 have HE:=k8 hE
 clear hE
 rcases hk with hk|hk
 ·go_enter Tryz.func190,Tryz.ntmps190
  go_wp2_with fail
  refine (zc _).mono ?_
  rintro e w1 ⟨rfl,rfl⟩
  go_wp2
  exact ⟨rfl,(wu _ _).alloc (wo _) _,by rw [HE.out]⟩
 ·have hkd:decide (k≤6)=false:=by simp;omega
  have hk0:0≤k:=by omega
  go_enter Tryz.func190,Tryz.ntmps190
  go_wp2_with fail
  refine (zc _).mono ?_
  rintro e w1 ⟨rfl,rfl⟩
  go_wp2
  exact ⟨rfl,(wu _ _).alloc (wo _) _,by rw [HE.out]⟩
theorem exprOpen (w:World) (b o:Nat) (x:Expr) (h:zo w b o x):∃ (n0 n1:Int) (s2:ByteArray) (a3:Option Addr) (l3 c3:Nat),w.cell? ⟨b,o,none⟩=some (.int .i64 n0)∧w.cell? ⟨b,o+1,none⟩=some (.int .u64 n1)∧w.cell? ⟨b,o+2,none⟩=some (.string s2)∧w.cell? ⟨b,o+3,none⟩=some (.slice a3 l3 c3)∧zl w x (.agg #[.int .i64 n0,.int .u64 n1,.string s2,.slice a3 l3 c3]):=by
 obtain ⟨a,c,h0,h1,h2,h3,h4⟩:=h.open
 exact ⟨_,_,_,a,_,c,h0,h1,h2,h3,h4⟩
theorem exprText_any:∀ (N:Nat) (e:Expr) (v:Value) (w:World),e.wt≤N→e.wt≤100000→zl w e v→Glob w→Calls Tryz.prog 190 #[v] w (qe w (zp e)):=by
 intro N
 induction N with
 | zero=>
  intro e v w h
  obtain ⟨k,n,s,xs⟩:=e
  rw [Expr.wt] at h;omega
 | succ N ih=>
  intro e v w hN hW hI hg
  obtain ⟨k,n,s,xs⟩:=e
  obtain ⟨a,c,rfl,hk,hn,hs,hsl⟩:=hI
  simp only at hk hn hs hsl
  rw [Expr.wt] at hN hW
  by_cases hk0:0≤k
  case neg=>exact exprText_out w k n s a xs.length c _ (by rw [zp,if_neg (by omega)]) (.inl (by omega))
  by_cases hk6:k≤6
  case neg=>exact exprText_out w k n s a xs.length c _ (by rw [zp,if_neg (by omega)]) (.inr (by omega))
  have hkk:0≤k∧k≤6:=⟨hk0,hk6⟩
  have hnb:decide (n≠0)=(n != 0):=by
   rw [Bool.eq_iff_iff];simp
  have hfit:∀ w1,Below w.heap.size w w1→Calls Tryz.prog 188 #[.agg (qv (jk k)).toArray,.string s,.bool (n != 0),.int .i64 xs.length] w1 (qi w1 (fits (jk k) s.data.toList (n != 0) xs.length)):=
   fun w1 hb=>fits_any (jk k) s (n != 0) xs.length w1 hs (hg.below hb)
  have htext:zp ⟨k,n,s,xs⟩=(fits (jk k) s.data.toList (n != 0) xs.length).bind fun words=>
    if k=0 then some (Lib.decDigits n.toNat) else if k=1 then some (words.getD 0 [])
    else (if k=3 then (xz n).map (fun w=>[w]) else some words).bind fun ws=>(ju xs).bind fun ts=>some (jw (ws++ts)):=by
   rw [zp,if_pos hkk,hnb]
  cases hf:fits (jk k) s.data.toList (n != 0) xs.length with
  | none=>
   exact exprText_none w ⟨k,n,s,xs⟩ k n s a xs.length c (n != 0) rfl hk0 hk6 (by rw [htext,hf];rfl) hf (k8 hfit)
  | some words=>
   rw [hf] at htext
   simp only [Option.bind_some] at htext
   have hwl:=fits_len (words_len k) hf
   have hU:0≤n∧n<18446744073709551616:=hn
   have hall:∀ w1,Below w.heap.size w w1→Calls Tryz.prog 189 #[.slice a xs.length c,.func (.func 190) #[] #[]] w1 (qi w1 (ju xs)):=by
    intro w1 hb1
    rw [exprTexts_all]
    refine all_exprs zo zl exprOpen (fun w w' b o x h hb=>zo.below hb x b o h) (.slice a xs.length c) xs 190 zp w1 (fun _ _=>by kernel_rfl) (hsl.imp (fun b o x _ hx=>zo.below hb1 x b o hx)) (by have:=wtEs_len xs;omega) ?_
    intro w2 w3 j x val hb2 hx hv hb3
    have hm:=wtEs_mem xs x (gg hx)
    exact ih x val w3 (by omega) (by omega) (hv.below hb3) ((((hg.below hb1).below hb2)).below hb3)
   refine exprText_some w ⟨k,n,s,xs⟩ k n s a xs.length c (n != 0) rfl hk0 hk6 words hf (k8 hfit) xs (k8 hg) hU.1 hU.2 (k8 hall) ?_ ?_ ?_ ?_ (k8 hwl) ?_
   ·intro h;rw [htext,if_pos h]
   ·intro h
    subst h
    rw [htext,if_neg (by omega),if_pos rfl]
    have hw1:∃ t,words=[t]:=fits_var hf
    obtain ⟨t,rfl⟩:=hw1
    exact ⟨t,rfl,rfl⟩
   ·intro h
    rw [htext,if_neg (by omega),if_neg (by omega),if_pos h]
    cases xz n<;>simp
   ·intro h0 h1 h3
    rw [htext,if_neg h0,if_neg h1,if_neg h3]
    rfl
   ·intro _ ts hts
    have h1:=exprTexts_count xs ts hts
    have h2:=wtEs_len xs
    have h3:=exprTexts_len xs ts hsl.nums hts
    refine ⟨by omega,fun ws hw1 hw2=>?_⟩
    have h5:=vo (ws++ts)
    have h6:=tl_le ws hw2
    rw [xw] at h5
    omega
end
section
open Go.RowKit
def ShapesAtS (v:Value) (w:World):Prop:=∃ b,v=.slice (some ⟨b,0,none⟩) 5 5∧∀ i u,stmtShapeCells[i]?=some u→w.cell? ⟨b,i,none⟩=some u
def mpShapesS:MP:=⟨ShapesAtS,fun v x y ⟨b,h1,h2⟩ hb=>⟨b,h1,fun i u hu=>jb hb (h2 i u hu)⟩⟩
def ShapeAtS (k:Nat) (v:Value) (w:World):Prop:=∃ b,v=.pointer (some ⟨b,k * 7,none⟩)∧∀ i u,stmtShapeCells[i]?=some u→w.cell? ⟨b,i,none⟩=some u
def mpShapeS (k:Nat):MP:=⟨ShapeAtS k,fun v x y ⟨b,h1,h2⟩ hb=>⟨b,h1,fun i u hu=>jb hb (h2 i u hu)⟩⟩
def setRow (w:World) (b k:Nat):List Value→World
 | []=>w
 | v::l=>setRow (w.setCell ⟨b,k,none⟩ v) b (k+1) l
theorem setRow_heap (b:Nat):∀ (l:List Value) (w:World) (k:Nat) (cs:Array Value) (e:TypeId),w.heap[b]?=some (.cells cs e)→∃ ds,(setRow w b k l).heap[b]?=some (.cells ds e)∧ds.size=cs.size∧(∀ i,i<k→ds[i]?=cs[i]?)∧(∀ j u,l[j]?=some u→k+j<cs.size→ds[k+j]?=some u)∧(∀ i,k+l.length≤i→ds[i]?=cs[i]?)
 | [],w,k,cs,e,h=>⟨cs,h,rfl,fun _ _=>rfl,fun j u hu=>by simp at hu,fun _ _=>rfl⟩
 | v::l,w,k,cs,e,h=>by
  have h1:(w.setCell ⟨b,k,none⟩ v).heap[b]?=some (.cells (cs.setIfInBounds k v) e):=by
   have hlt:=(wl.1 h).1
   simp [World.setCell,Array.getElem?_modify,h]
  obtain ⟨ds,h2,h3,h4,h5,h6⟩:=setRow_heap b l _ (k+1) _ e h1
  refine ⟨ds,h2,by simpa using h3,fun i hi=>?_,fun j u hu hlt=>?_,fun i hi=>?_⟩
  ·rw [h4 i (by omega),Array.getElem?_setIfInBounds_ne (by omega)]
  ·cases j with
   | zero=>
    simp at hu;subst hu
    rw [Nat.add_zero,h4 k (by omega)]
    simp at hlt
    simp [hlt]
   | succ j=>
    have:=h5 j u (by simpa using hu) (by simp;omega)
    rwa [show k+1+j=k+(j+1) by omega] at this
  ·rw [h6 i (by simp at hi;omega),Array.getElem?_setIfInBounds_ne (by simp at hi;omega)]
theorem qt {B:Nat} {a:World} (b:Nat) (hb:B≤b):∀ (l:List Value) (w:World) (k:Nat),Below B a w→Below B a (setRow w b k l)
 | [],_,_,h=>h
 | v::l,w,k,h=>qt b hb l _ _ (h.setCell hb v)
def qy:Array Value:=#[.string ⟨#[]⟩,.bool false,.bool false,.int .i64 0,.int .i64 0,.bool false,.bool false]
def VarAt (B:Nat) (v:Value) (w:World):Prop:=∃ b,v=.pointer (some ⟨b,0,none⟩)∧B≤b∧w.heap[b]?=some (.cells qy 212)
theorem ji {w w1:World} (h:Below w.heap.size w w1) {b:Nat} {o:Obj} (hb:w.heap[b]?=some o):w1.heap[b]?=some o:=by
 rw [h.block b (wl.1 hb).1];exact hb
def mpVar (B:Nat):MP:=⟨VarAt B,fun v x y ⟨b,h1,h2,h3⟩ hb=>⟨b,h1,h2,ji hb h3⟩⟩
def mpSl (ts:List Txt):MP:=⟨fun v w=>TxtSl w v ts,fun v x y h hb=>h.below hb⟩
theorem own_two (w:World) (base:Nat) (s t:ByteArray) (hb:base≤w.heap.size):(w.alloc (.cells #[.string s,.string t] 9)).ownsRow base 9 1 (.slice (some ⟨w.heap.size,0,none⟩) 2 2) 2 [.string s,.string t]:=by
 have h:=World.ownsRow_lit (base:=base) (e:=9) (size:=1) w #[.string s,.string t] 2 hb (by simp [maxLen]) (by simp)
 simpa using h
theorem jo {w w1:World} {base:Nat} {e:TypeId} {size n:Nat} {v:Value} {xs:List Value} (hg:w.grownBy w1 v.ownBlock) (ho:w.ownsRow base e size v n xs) {b o:Nat} {u:Value} (hc:w.cell? ⟨b,o,none⟩=some u) (hb:b<base):w1.cell? ⟨b,o,none⟩=some u:=by
 rw [World.cell?_of_block (hg.block b (k9 w _ hc) (fun e=>by have:=ks ho b e.symm;omega))]
 exact hc
theorem stmtText_k0 (w:World) (n:Int) (s:ByteArray) (a0 a1 a2:Option Addr) (l0 l1 l2 c0 c1 c2:Nat) (o onum:Option Txt) (ofit oargs othn oels:Option (List Txt)) (nb:Bool) (hnb:(n != 0)=nb)
  (HFit:Hid (∀ w1,Below w.heap.size w w1→Calls Tryz.prog 188 #[.agg #[.string (S [115,101,116]),.bool true,.bool false,.int .i64 1,.int .i64 1,.bool false,.bool false],.string s,.bool nb,.int .i64 l0] w1 (qi w1 ofit)))
  (HArg:Hid (∀ w1,Below w.heap.size w w1→Calls Tryz.prog 189 #[.slice a0 l0 c0,.func (.func 190) #[] #[]] w1 (qi w1 oargs)))
  (HThn:Hid (∀ w1,Below w.heap.size w w1→Calls Tryz.prog 175 #[.slice a1 l1 c1,.func (.func 176) #[] #[]] w1 (qi w1 othn)))
  (HEls:Hid (∀ w1,Below w.heap.size w w1→Calls Tryz.prog 175 #[.slice a2 l2 c2,.func (.func 176) #[] #[]] w1 (qi w1 oels)))
  (HNum:Hid (∀ w1,Below w.heap.size w w1→Calls Tryz.prog 140 #[.int .i64 n] w1 (qe w1 onum)))
  (HR:Hid (o=ofit.bind fun words=>if l1=0∧l2=0 then oargs.bind fun ts=>othn.bind fun t1=>some (jw (words++ts++t1)) else none))
  (HLw:Hid (∀ ws,ofit=some ws→ws.length≤2)) (HLa:Hid (∀ ts,oargs=some ts→ts.length≤100000)) (HLt:Hid (∀ ts,othn=some ts→ts.length≤100000)) (HLe:Hid (∀ ts,oels=some ts→ts.length≤100000))
  (HLp:Hid (∀ t,o=some t→t.length≤100000000)) (HLp1:Hid (∀ t,othn=some t→(jw t).length≤100000000)) (HLp2:Hid (∀ t,oels=some t→(jw t).length≤100000000)) :
  Calls Tryz.prog 176 #[.agg #[.int .i64 0,.string s,.int .i64 n,.slice a0 l0 c0,.slice a1 l1 c1,.slice a2 l2 c2]] w (qe w o):=by
 have hB0:=k8 ((wu w.heap.size w).alloc (wo _) (.cells #[.int .i64 0,.string s,.int .i64 n,.slice a0 l0 c0,.slice a1 l1 c1,.slice a2 l2 c2] 58))
 have HNb:=k8 hnb
 clear hnb
 go_enter Tryz.func176,Tryz.ntmps176
 go_wp2_with fail
 refine (j7 _).mono ?_
 rintro e w1 ⟨rfl,rfl⟩
 go_wp2_with fail
 refine qa zi [mpShapesS,.is (.pointer (some ⟨w.heap.size,0,none⟩)),.is (.int .i64 0),mpShapeS 0,.is (.agg #[.string (S [115,101,116]),.bool true,.bool false,.int .i64 1,.int .i64 1,.bool false,.bool false]),mpVar (w.heap.size+1)] (by kernel_rfl) 6 rfl (by kernel_rfl) _ rfl rfl ?_ ?_
 ·refine ⟨?_,?_,?_,?_,?_,?_,trivial⟩
  ·refine jn (f:=187) rfl rfl fun x y hB hF hD=>⟨#[],?_,?_⟩
   ·simp only [execOp]
    go_simp
   ·refine (sorts_any y).mono ?_
    rintro e w' ⟨rfl,rfl⟩
    refine ⟨(wu _ _).alloc (wo _) _,.inl ⟨_,rfl,y.heap.size,rfl,fun i u hu=>?_⟩⟩
    rw [World.cell?_alloc_new];exact hu
  ·refine jc rfl rfl rfl fun x y hB hF hD=>?_
   have e1:slot x 1=.pointer (some ⟨w.heap.size,0,none⟩):=hF.at 1 rfl
   clear hB hF
   simp only [execOp,ja,e1]
   first|rfl|(go_simp;try rfl)
  ·refine jc rfl rfl rfl fun x y hB hF hD=>?_
   obtain ⟨d0,-⟩:=hD
   have e16:slot x 16=.pointer (some ⟨w.heap.size,0,none⟩):=d0 rfl
   have hc:y.cell? ⟨w.heap.size,0,none⟩=some (.int .i64 0):=(hB.cell (by simp)).trans (by simp)
   clear hB hF
   simp only [execOp,ja,e16]
   first|rfl|(go_simp;try rfl)
  ·refine zq rfl rfl fun x y hB hF hD=>?_
   obtain ⟨d0,d1,-⟩:=hD
   obtain ⟨b,e0,hcs⟩:ShapesAtS (slot x 15) y:=d0 rfl
   have e1:slot x 17=.int .i64 0:=d1 rfl
   refine ⟨.pointer (some ⟨b,0 * 7,none⟩),?_,b,rfl,hcs⟩
   clear hcs hB hF
   simp only [execOp,ja,e0,e1]
   first|rfl|(go_simp;try rfl)
  ·refine jc rfl rfl rfl fun x y hB hF hD=>?_
   obtain ⟨d0,-⟩:=hD
   obtain ⟨b,e0,hcs⟩:ShapeAtS 0 (slot x 18) y:=d0 rfl
   simp only [execOp,ja,e0]
   have h0:y.cell? ⟨b,0,none⟩=some (.string (S [115,101,116])):=hcs 0 _ rfl
   have h1:y.cell? ⟨b,1,none⟩=some (.bool true):=hcs 1 _ rfl
   have h2:y.cell? ⟨b,2,none⟩=some (.bool false):=hcs 2 _ rfl
   have h3:y.cell? ⟨b,3,none⟩=some (.int .i64 1):=hcs 3 _ rfl
   have h4:y.cell? ⟨b,4,none⟩=some (.int .i64 1):=hcs 4 _ rfl
   have h5:y.cell? ⟨b,5,none⟩=some (.bool false):=hcs 5 _ rfl
   have h6:y.cell? ⟨b,6,none⟩=some (.bool false):=hcs 6 _ rfl
   clear hcs hB hF
   first|rfl|(go_simp;try rfl)
  ·refine jr rfl fun x y hB hF hD=>?_
   unfold Oper.wp
   simp only [execOp]
   go_simp
   refine ⟨_,rfl,(wu _ _).alloc (wo _) _,y.heap.size,rfl,?_,?_⟩
   ·have:=hB.size;simp at this;omega
   ·exact heap_alloc_new y _
 ·intro x y hB hF hP
  obtain ⟨p0,p1,p2,p3,p4,p5,-⟩:=hP
  obtain ⟨b,e3,hb,hvar⟩:VarAt (w.heap.size+1) (slot x 3) y:=p5
  have e19:slot x 19=.agg #[.string (S [115,101,116]),.bool true,.bool false,.int .i64 1,.int .i64 1,.bool false,.bool false]:=p4
  have hx:=jj hF [(15,slot x 15),(16,.pointer (some ⟨w.heap.size,0,none⟩)),(17,.int .i64 0),(18,slot x 18),(19,.agg #[.string (S [115,101,116]),.bool true,.bool false,.int .i64 1,.int .i64 1,.bool false,.bool false]),(3,slot x 3)] rfl ⟨rfl,p1,p2,rfl,p4,rfl,trivial⟩
  rw [e3] at hx
  have HB:=k8 (hB0.out.trans (hB.mono (by simp)))
  have HBy:=k8 hB
  generalize slot x 15=v15 at *
  generalize slot x 18=v18 at *
  clear hF p0 p1 p2 p3 p4 e3 e19 hB
  subst hx
  simp only [puts,Act.put]
  have hlt:b<y.heap.size:=(wl.1 hvar).1
  have hv:∀ j,j<7→y.cell? ⟨b,j,none⟩=qy[j]?:=fun j _=>by simp [World.cell?,hvar]
  have hv0:=hv 0 (by omega)
  have hv1:=hv 1 (by omega)
  have hv2:=hv 2 (by omega)
  have hv3:=hv 3 (by omega)
  have hv4:=hv 4 (by omega)
  have hv5:=hv 5 (by omega)
  have hv6:=hv 6 (by omega)
  simp only [qy] at hv0 hv1 hv2 hv3 hv4 hv5 hv6
  have hz:∀ j,y.frozen? ⟨b,j,none⟩=false:=fun j=>by simp [World.frozen?,hvar]
  clear hv
  have HV:=k8 hvar
  clear hvar
  unfold Oper.wp
  simp only [execOp]
  go_simp
  have HSet:=k8 (setRow_heap b [.string (S [115,101,116]),.bool true,.bool false,.int .i64 1,.int .i64 1,.bool false,.bool false] y 0 qy 212 HV.out)
  have HWB:=k8 (qt (B:=w.heap.size) b (by omega) [.string (S [115,101,116]),.bool true,.bool false,.int .i64 1,.int .i64 1,.bool false,.bool false] y 0 HB.out)
  have HWB1:=k8 (qt (B:=w.heap.size+1) b hb [.string (S [115,101,116]),.bool true,.bool false,.int .i64 1,.int .i64 1,.bool false,.bool false] y 0 (HBy.out.mono (by simp)))
  simp only [setRow,Nat.zero_add,Nat.reduceAdd] at HSet HWB HWB1
  generalize (((((((y.setCell ⟨b,0,none⟩ (.string (S [115,101,116]))).setCell ⟨b,1,none⟩ (.bool true)).setCell ⟨b,2,none⟩ (.bool false)).setCell ⟨b,3,none⟩ (.int .i64 1)).setCell ⟨b,4,none⟩ (.int .i64 1)).setCell ⟨b,5,none⟩ (.bool false)).setCell ⟨b,6,none⟩ (.bool false))=W at *
  obtain ⟨ds,hds,hdz,-,hdc,-⟩:=HSet.out
  clear HSet HV hz hv0 hv1 hv2 hv3 hv4 hv5 hv6 HBy
  have hs0:W.cell? ⟨b,0,none⟩=some (.string (S [115,101,116])):=by simpa [World.cell?,hds] using hdc 0 _ rfl (by decide)
  have hs1:W.cell? ⟨b,1,none⟩=some (.bool true):=by simpa [World.cell?,hds] using hdc 1 _ rfl (by decide)
  have hs2:W.cell? ⟨b,2,none⟩=some (.bool false):=by simpa [World.cell?,hds] using hdc 2 _ rfl (by decide)
  have hs3:W.cell? ⟨b,3,none⟩=some (.int .i64 1):=by simpa [World.cell?,hds] using hdc 3 _ rfl (by decide)
  have hs4:W.cell? ⟨b,4,none⟩=some (.int .i64 1):=by simpa [World.cell?,hds] using hdc 4 _ rfl (by decide)
  have hs5:W.cell? ⟨b,5,none⟩=some (.bool false):=by simpa [World.cell?,hds] using hdc 5 _ rfl (by decide)
  have hs6:W.cell? ⟨b,6,none⟩=some (.bool false):=by simpa [World.cell?,hds] using hdc 6 _ rfl (by decide)
  have hb1:W.cell? ⟨w.heap.size,1,none⟩=some (.string s):=(HWB1.out.cell (by simp)).trans (by simp)
  have hb2:W.cell? ⟨w.heap.size,2,none⟩=some (.int .i64 n):=(HWB1.out.cell (by simp)).trans (by simp)
  have hb3:W.cell? ⟨w.heap.size,3,none⟩=some (.slice a0 l0 c0):=(HWB1.out.cell (by simp)).trans (by simp)
  have hb4:W.cell? ⟨w.heap.size,4,none⟩=some (.slice a1 l1 c1):=(HWB1.out.cell (by simp)).trans (by simp)
  have hb5:W.cell? ⟨w.heap.size,5,none⟩=some (.slice a2 l2 c2):=(HWB1.out.cell (by simp)).trans (by simp)
  have HBW:=k8 HWB.out
  clear hds hdz hdc HWB HWB1 HB hlt
  have hlb:w.heap.size<W.heap.size:=k9 W _ hb1
  have hlv:b<W.heap.size:=k9 W _ hs0
  obtain ⟨N0,hN0⟩:∃ n,n=W.heap.size:=⟨_,rfl⟩
  have hN1:w.heap.size<N0:=by omega
  have hN2:b<N0:=by omega
  have HN0:=k8 hN0
  clear hN0
  have hnb:=HNb.out
  go_wp2_with fail
  clear hnb
  refine (HFit.out W HBW.out).mono ?_
  rintro e w3 ⟨hB,he⟩
  have HBw3:=k8 (jg HBW.out HBW.out.size hB)
  replace hb2:=jb hB hb2
  replace hb3:=jb hB hb3
  replace hb4:=jb hB hb4
  replace hb5:=jb hB hb5
  replace hs2:=jb hB hs2
  replace hs5:=jb hB hs5
  replace hs6:=jb hB hs6
  clear hlb hlv hs0 hs1 hs3 hs4 hb1 HBW
  have hz3:=hB.size
  clear hB
  have hlb:=k9 w3 _ hb2
  have hlv:=k9 w3 _ hs2
  cases hf:ofit with
  | none=>
   rw [hf] at he
   subst he
   have HE:Hid (o=none):=by show o=none;rw [HR.out];simp [hf]
   go_wp2_with fail
   exact ⟨rfl,HBw3.out,by rw [HE.out]⟩
  | some words=>
   rw [hf] at he
   obtain ⟨v4,rfl,hrow⟩:=he
   have HO3:=k8 (HN0.out ▸ hrow:w3.ownsRow N0 9 1 v4 words.length (words.map fun t=>.string (S t)))
   have HF:=k8 hf
   have HNz:Hid (N0≤w3.heap.size):=HN0.out ▸ hz3
   clear hrow hf hz3
   by_cases h1:l1=0
   case neg=>
    have t1:((l1:Int) == 0)=false:=by simp;omega
    have HE:Hid (o=none):=by show o=none;rw [HR.out];simp [HF.out,h1]
    go_wp2_with fail
    refine (zc _).mono ?_
    rintro e w4 ⟨rfl,rfl⟩
    go_wp2_with fail
    exact ⟨rfl,HBw3.out,by rw [HE.out]⟩
   subst h1
   by_cases h2:l2=0
   case neg=>
    have t1:((l2:Int) == 0)=false:=by simp;omega
    have HE:Hid (o=none):=by show o=none;rw [HR.out];simp [HF.out,h2]
    go_wp2_with fail
    refine (zc _).mono ?_
    rintro e w4 ⟨rfl,rfl⟩
    go_wp2_with fail
    exact ⟨rfl,HBw3.out,by rw [HE.out]⟩
   subst h2
   go_wp2_with fail
   refine (j7 _).mono ?_
   rintro e w4 ⟨rfl,rfl⟩
   go_wp2_with fail
   refine (HArg.out w3 HBw3.out).mono ?_
   rintro e w6 ⟨hB,he⟩
   have HBw6:=k8 (jg HBw3.out HBw3.out.size hB)
   replace hb2:=jb hB hb2
   replace hb3:=jb hB hb3
   replace hb4:=jb hB hb4
   replace hb5:=jb hB hb5
   replace hs2:=jb hB hs2
   replace hs5:=jb hB hs5
   replace hs6:=jb hB hs6
   have HO6:=k8 (jv HO3.out hB)
   have HNz6:Hid (N0≤w6.heap.size):=wx HNz.out hB.size
   clear hB hlb hlv HBw3 HO3 HNz
   have hlb:=k9 w6 _ hb2
   have hlv:=k9 w6 _ hs2
   cases ha:oargs with
   | none=>
    rw [ha] at he
    subst he
    have HE:Hid (o=none):=by show o=none;rw [HR.out];simp [HF.out,ha]
    go_wp2_with fail
    exact ⟨rfl,HBw6.out,by rw [HE.out]⟩
   | some ts=>
    rw [ha] at he
    obtain ⟨va,rfl,hrow⟩:=he
    have HSa:=k8 hrow
    have HA:=k8 ha
    clear hrow ha
    go_wp2_with (at_builtin;refine yj _ rfl _ _ 136 9 _ 16 rfl Tryz.underlying136 jm rfl N0 _ _ _ _ _ _ _ ?fa ?fb HO6.out HSa.out ?fc ?fd ?fe ?ff ?_)
    case fa=>rfl
    case fb=>rfl
    case fc=>exact vl _
    case fd=>exact HNz6.out
    case fe=>have:=HLw.out _ HF.out;have:=HLa.out _ HA.out;simp;omega
    case ff=>decide
    intro v7 w7 ho7 hg7
    have HO7:=k8 (show w7.ownsRow N0 9 1 v7 (words++ts).length ((words++ts).map fun t=>.string (S t)) from by simpa [Nat.add_assoc,Nat.add_comm,Nat.add_left_comm] using ho7)
    have HBw7:=k8 (j6 HBw6.out HO6.out (by omega) (by omega) hg7)
    have HNz7:Hid (N0≤w7.heap.size):=wx HNz6.out hg7.size
    replace hb2:=jo hg7 HO6.out hb2 (by omega)
    replace hb3:=jo hg7 HO6.out hb3 (by omega)
    replace hb4:=jo hg7 HO6.out hb4 (by omega)
    replace hb5:=jo hg7 HO6.out hb5 (by omega)
    replace hs2:=jo hg7 HO6.out hs2 (by omega)
    replace hs5:=jo hg7 HO6.out hs5 (by omega)
    replace hs6:=jo hg7 HO6.out hs6 (by omega)
    clear ho7 hg7 hlb hlv HBw6 HO6 HNz6 HSa
    have hlb:=k9 w7 _ hb2
    have hlv:=k9 w7 _ hs2
    go_wp2_with fail
    refine (HThn.out w7 HBw7.out).mono ?_
    rintro e w8 ⟨hB,he⟩
    have HBw8:=k8 (jg HBw7.out HBw7.out.size hB)
    replace hb2:=jb hB hb2
    replace hb3:=jb hB hb3
    replace hb4:=jb hB hb4
    replace hb5:=jb hB hb5
    replace hs2:=jb hB hs2
    replace hs5:=jb hB hs5
    replace hs6:=jb hB hs6
    have HO8:=k8 (jv HO7.out hB)
    have HNz8:Hid (N0≤w8.heap.size):=wx HNz7.out hB.size
    clear hB hlb hlv HBw7 HO7 HNz7
    have hlb:=k9 w8 _ hb2
    have hlv:=k9 w8 _ hs2
    cases ht:othn with
    | none=>
     rw [ht] at he
     subst he
     have HE:Hid (o=none):=by show o=none;rw [HR.out];simp [HF.out,HA.out,ht]
     go_wp2_with fail
     exact ⟨rfl,HBw8.out,by rw [HE.out]⟩
    | some t1=>
     rw [ht] at he
     obtain ⟨vt,rfl,hrow⟩:=he
     have HSt:=k8 hrow
     have HT:=k8 ht
     clear hrow ht
     go_wp2_with (at_builtin;refine yj _ rfl _ _ 136 9 _ 16 rfl Tryz.underlying136 jm rfl N0 _ _ _ _ _ _ _ ?ga ?gb HO8.out HSt.out ?gc ?gd ?ge ?gf ?_)
     case ga=>rfl
     case gb=>rfl
     case gc=>exact vl _
     case gd=>exact HNz8.out
     case ge=>have:=HLw.out _ HF.out;have:=HLa.out _ HA.out;have:=HLt.out _ HT.out;simp;omega
     case gf=>decide
     intro v9 w9 ho9 hg9
     have HO9:=k8 (qc (ts:=words++ts++t1) (by simpa [Nat.add_assoc,Nat.add_comm,Nat.add_left_comm] using ho9) (by simp<;>omega))
     have HBw9:=k8 (j6 HBw8.out HO8.out (by omega) (by have:=HNz8.out;omega) hg9)
     clear ho9 hg9
     have HE:Hid (o=some (jw (words++ts++t1))):=by show o=_;rw [HR.out];simp [HF.out,HA.out,HT.out]
     have HLst:=k8 (vw v9 (words++ts++t1) w9 HO9.out (by have:=HLw.out _ HF.out;have:=HLa.out _ HA.out;have:=HLt.out _ HT.out;simp;omega) (HLp.out _ HE.out))
     clear HO9
     generalize jw (words++ts++t1)=TX at *
     go_wp2_with fail
     refine HLst.out.mono ?_
     rintro e w10 ⟨rfl,hB⟩
     have HBw10:=k8 (jg HBw9.out HBw9.out.size hB)
     clear hB
     go_wp2_with fail
     go_ret
     exact ⟨HBw10.out,by rw [HE.out];rfl⟩
theorem stmtText_k1 (w:World) (n:Int) (s:ByteArray) (a0 a1 a2:Option Addr) (l0 l1 l2 c0 c1 c2:Nat) (o onum:Option Txt) (ofit oargs othn oels:Option (List Txt)) (nb:Bool) (hnb:(n != 0)=nb)
  (HFit:Hid (∀ w1,Below w.heap.size w w1→Calls Tryz.prog 188 #[.agg #[.string (S [112,117,116]),.bool true,.bool false,.int .i64 2,.int .i64 2,.bool false,.bool false],.string s,.bool nb,.int .i64 l0] w1 (qi w1 ofit)))
  (HArg:Hid (∀ w1,Below w.heap.size w w1→Calls Tryz.prog 189 #[.slice a0 l0 c0,.func (.func 190) #[] #[]] w1 (qi w1 oargs)))
  (HThn:Hid (∀ w1,Below w.heap.size w w1→Calls Tryz.prog 175 #[.slice a1 l1 c1,.func (.func 176) #[] #[]] w1 (qi w1 othn)))
  (HEls:Hid (∀ w1,Below w.heap.size w w1→Calls Tryz.prog 175 #[.slice a2 l2 c2,.func (.func 176) #[] #[]] w1 (qi w1 oels)))
  (HNum:Hid (∀ w1,Below w.heap.size w w1→Calls Tryz.prog 140 #[.int .i64 n] w1 (qe w1 onum)))
  (HR:Hid (o=ofit.bind fun words=>if l1=0∧l2=0 then oargs.bind fun ts=>othn.bind fun t1=>some (jw (words++ts++t1)) else none))
  (HLw:Hid (∀ ws,ofit=some ws→ws.length≤2)) (HLa:Hid (∀ ts,oargs=some ts→ts.length≤100000)) (HLt:Hid (∀ ts,othn=some ts→ts.length≤100000)) (HLe:Hid (∀ ts,oels=some ts→ts.length≤100000))
  (HLp:Hid (∀ t,o=some t→t.length≤100000000)) (HLp1:Hid (∀ t,othn=some t→(jw t).length≤100000000)) (HLp2:Hid (∀ t,oels=some t→(jw t).length≤100000000)) :
  Calls Tryz.prog 176 #[.agg #[.int .i64 1,.string s,.int .i64 n,.slice a0 l0 c0,.slice a1 l1 c1,.slice a2 l2 c2]] w (qe w o):=by
 have hB0:=k8 ((wu w.heap.size w).alloc (wo _) (.cells #[.int .i64 1,.string s,.int .i64 n,.slice a0 l0 c0,.slice a1 l1 c1,.slice a2 l2 c2] 58))
 have HNb:=k8 hnb
 clear hnb
 go_enter Tryz.func176,Tryz.ntmps176
 go_wp2_with fail
 refine (j7 _).mono ?_
 rintro e w1 ⟨rfl,rfl⟩
 go_wp2_with fail
 refine qa zi [mpShapesS,.is (.pointer (some ⟨w.heap.size,0,none⟩)),.is (.int .i64 1),mpShapeS 1,.is (.agg #[.string (S [112,117,116]),.bool true,.bool false,.int .i64 2,.int .i64 2,.bool false,.bool false]),mpVar (w.heap.size+1)] (by kernel_rfl) 6 rfl (by kernel_rfl) _ rfl rfl ?_ ?_
 ·refine ⟨?_,?_,?_,?_,?_,?_,trivial⟩
  ·refine jn (f:=187) rfl rfl fun x y hB hF hD=>⟨#[],?_,?_⟩
   ·simp only [execOp]
    go_simp
   ·refine (sorts_any y).mono ?_
    rintro e w' ⟨rfl,rfl⟩
    refine ⟨(wu _ _).alloc (wo _) _,.inl ⟨_,rfl,y.heap.size,rfl,fun i u hu=>?_⟩⟩
    rw [World.cell?_alloc_new];exact hu
  ·refine jc rfl rfl rfl fun x y hB hF hD=>?_
   have e1:slot x 1=.pointer (some ⟨w.heap.size,0,none⟩):=hF.at 1 rfl
   clear hB hF
   simp only [execOp,ja,e1]
   first|rfl|(go_simp;try rfl)
  ·refine jc rfl rfl rfl fun x y hB hF hD=>?_
   obtain ⟨d0,-⟩:=hD
   have e16:slot x 16=.pointer (some ⟨w.heap.size,0,none⟩):=d0 rfl
   have hc:y.cell? ⟨w.heap.size,0,none⟩=some (.int .i64 1):=(hB.cell (by simp)).trans (by simp)
   clear hB hF
   simp only [execOp,ja,e16]
   first|rfl|(go_simp;try rfl)
  ·refine zq rfl rfl fun x y hB hF hD=>?_
   obtain ⟨d0,d1,-⟩:=hD
   obtain ⟨b,e0,hcs⟩:ShapesAtS (slot x 15) y:=d0 rfl
   have e1:slot x 17=.int .i64 1:=d1 rfl
   refine ⟨.pointer (some ⟨b,1 * 7,none⟩),?_,b,rfl,hcs⟩
   clear hcs hB hF
   simp only [execOp,ja,e0,e1]
   first|rfl|(go_simp;try rfl)
  ·refine jc rfl rfl rfl fun x y hB hF hD=>?_
   obtain ⟨d0,-⟩:=hD
   obtain ⟨b,e0,hcs⟩:ShapeAtS 1 (slot x 18) y:=d0 rfl
   simp only [execOp,ja,e0]
   have h0:y.cell? ⟨b,7,none⟩=some (.string (S [112,117,116])):=hcs 7 _ rfl
   have h1:y.cell? ⟨b,8,none⟩=some (.bool true):=hcs 8 _ rfl
   have h2:y.cell? ⟨b,9,none⟩=some (.bool false):=hcs 9 _ rfl
   have h3:y.cell? ⟨b,10,none⟩=some (.int .i64 2):=hcs 10 _ rfl
   have h4:y.cell? ⟨b,11,none⟩=some (.int .i64 2):=hcs 11 _ rfl
   have h5:y.cell? ⟨b,12,none⟩=some (.bool false):=hcs 12 _ rfl
   have h6:y.cell? ⟨b,13,none⟩=some (.bool false):=hcs 13 _ rfl
   clear hcs hB hF
   first|rfl|(go_simp;try rfl)
  ·refine jr rfl fun x y hB hF hD=>?_
   unfold Oper.wp
   simp only [execOp]
   go_simp
   refine ⟨_,rfl,(wu _ _).alloc (wo _) _,y.heap.size,rfl,?_,?_⟩
   ·have:=hB.size;simp at this;omega
   ·exact heap_alloc_new y _
 ·intro x y hB hF hP
  obtain ⟨p0,p1,p2,p3,p4,p5,-⟩:=hP
  obtain ⟨b,e3,hb,hvar⟩:VarAt (w.heap.size+1) (slot x 3) y:=p5
  have e19:slot x 19=.agg #[.string (S [112,117,116]),.bool true,.bool false,.int .i64 2,.int .i64 2,.bool false,.bool false]:=p4
  have hx:=jj hF [(15,slot x 15),(16,.pointer (some ⟨w.heap.size,0,none⟩)),(17,.int .i64 1),(18,slot x 18),(19,.agg #[.string (S [112,117,116]),.bool true,.bool false,.int .i64 2,.int .i64 2,.bool false,.bool false]),(3,slot x 3)] rfl ⟨rfl,p1,p2,rfl,p4,rfl,trivial⟩
  rw [e3] at hx
  have HB:=k8 (hB0.out.trans (hB.mono (by simp)))
  have HBy:=k8 hB
  generalize slot x 15=v15 at *
  generalize slot x 18=v18 at *
  clear hF p0 p1 p2 p3 p4 e3 e19 hB
  subst hx
  simp only [puts,Act.put]
  have hlt:b<y.heap.size:=(wl.1 hvar).1
  have hv:∀ j,j<7→y.cell? ⟨b,j,none⟩=qy[j]?:=fun j _=>by simp [World.cell?,hvar]
  have hv0:=hv 0 (by omega)
  have hv1:=hv 1 (by omega)
  have hv2:=hv 2 (by omega)
  have hv3:=hv 3 (by omega)
  have hv4:=hv 4 (by omega)
  have hv5:=hv 5 (by omega)
  have hv6:=hv 6 (by omega)
  simp only [qy] at hv0 hv1 hv2 hv3 hv4 hv5 hv6
  have hz:∀ j,y.frozen? ⟨b,j,none⟩=false:=fun j=>by simp [World.frozen?,hvar]
  clear hv
  have HV:=k8 hvar
  clear hvar
  unfold Oper.wp
  simp only [execOp]
  go_simp
  have HSet:=k8 (setRow_heap b [.string (S [112,117,116]),.bool true,.bool false,.int .i64 2,.int .i64 2,.bool false,.bool false] y 0 qy 212 HV.out)
  have HWB:=k8 (qt (B:=w.heap.size) b (by omega) [.string (S [112,117,116]),.bool true,.bool false,.int .i64 2,.int .i64 2,.bool false,.bool false] y 0 HB.out)
  have HWB1:=k8 (qt (B:=w.heap.size+1) b hb [.string (S [112,117,116]),.bool true,.bool false,.int .i64 2,.int .i64 2,.bool false,.bool false] y 0 (HBy.out.mono (by simp)))
  simp only [setRow,Nat.zero_add,Nat.reduceAdd] at HSet HWB HWB1
  generalize (((((((y.setCell ⟨b,0,none⟩ (.string (S [112,117,116]))).setCell ⟨b,1,none⟩ (.bool true)).setCell ⟨b,2,none⟩ (.bool false)).setCell ⟨b,3,none⟩ (.int .i64 2)).setCell ⟨b,4,none⟩ (.int .i64 2)).setCell ⟨b,5,none⟩ (.bool false)).setCell ⟨b,6,none⟩ (.bool false))=W at *
  obtain ⟨ds,hds,hdz,-,hdc,-⟩:=HSet.out
  clear HSet HV hz hv0 hv1 hv2 hv3 hv4 hv5 hv6 HBy
  have hs0:W.cell? ⟨b,0,none⟩=some (.string (S [112,117,116])):=by simpa [World.cell?,hds] using hdc 0 _ rfl (by decide)
  have hs1:W.cell? ⟨b,1,none⟩=some (.bool true):=by simpa [World.cell?,hds] using hdc 1 _ rfl (by decide)
  have hs2:W.cell? ⟨b,2,none⟩=some (.bool false):=by simpa [World.cell?,hds] using hdc 2 _ rfl (by decide)
  have hs3:W.cell? ⟨b,3,none⟩=some (.int .i64 2):=by simpa [World.cell?,hds] using hdc 3 _ rfl (by decide)
  have hs4:W.cell? ⟨b,4,none⟩=some (.int .i64 2):=by simpa [World.cell?,hds] using hdc 4 _ rfl (by decide)
  have hs5:W.cell? ⟨b,5,none⟩=some (.bool false):=by simpa [World.cell?,hds] using hdc 5 _ rfl (by decide)
  have hs6:W.cell? ⟨b,6,none⟩=some (.bool false):=by simpa [World.cell?,hds] using hdc 6 _ rfl (by decide)
  have hb1:W.cell? ⟨w.heap.size,1,none⟩=some (.string s):=(HWB1.out.cell (by simp)).trans (by simp)
  have hb2:W.cell? ⟨w.heap.size,2,none⟩=some (.int .i64 n):=(HWB1.out.cell (by simp)).trans (by simp)
  have hb3:W.cell? ⟨w.heap.size,3,none⟩=some (.slice a0 l0 c0):=(HWB1.out.cell (by simp)).trans (by simp)
  have hb4:W.cell? ⟨w.heap.size,4,none⟩=some (.slice a1 l1 c1):=(HWB1.out.cell (by simp)).trans (by simp)
  have hb5:W.cell? ⟨w.heap.size,5,none⟩=some (.slice a2 l2 c2):=(HWB1.out.cell (by simp)).trans (by simp)
  have HBW:=k8 HWB.out
  clear hds hdz hdc HWB HWB1 HB hlt
  have hlb:w.heap.size<W.heap.size:=k9 W _ hb1
  have hlv:b<W.heap.size:=k9 W _ hs0
  obtain ⟨N0,hN0⟩:∃ n,n=W.heap.size:=⟨_,rfl⟩
  have hN1:w.heap.size<N0:=by omega
  have hN2:b<N0:=by omega
  have HN0:=k8 hN0
  clear hN0
  have hnb:=HNb.out
  go_wp2_with fail
  clear hnb
  refine (HFit.out W HBW.out).mono ?_
  rintro e w3 ⟨hB,he⟩
  have HBw3:=k8 (jg HBW.out HBW.out.size hB)
  replace hb2:=jb hB hb2
  replace hb3:=jb hB hb3
  replace hb4:=jb hB hb4
  replace hb5:=jb hB hb5
  replace hs2:=jb hB hs2
  replace hs5:=jb hB hs5
  replace hs6:=jb hB hs6
  clear hlb hlv hs0 hs1 hs3 hs4 hb1 HBW
  have hz3:=hB.size
  clear hB
  have hlb:=k9 w3 _ hb2
  have hlv:=k9 w3 _ hs2
  cases hf:ofit with
  | none=>
   rw [hf] at he
   subst he
   have HE:Hid (o=none):=by show o=none;rw [HR.out];simp [hf]
   go_wp2_with fail
   exact ⟨rfl,HBw3.out,by rw [HE.out]⟩
  | some words=>
   rw [hf] at he
   obtain ⟨v4,rfl,hrow⟩:=he
   have HO3:=k8 (HN0.out ▸ hrow:w3.ownsRow N0 9 1 v4 words.length (words.map fun t=>.string (S t)))
   have HF:=k8 hf
   have HNz:Hid (N0≤w3.heap.size):=HN0.out ▸ hz3
   clear hrow hf hz3
   by_cases h1:l1=0
   case neg=>
    have t1:((l1:Int) == 0)=false:=by simp;omega
    have HE:Hid (o=none):=by show o=none;rw [HR.out];simp [HF.out,h1]
    go_wp2_with fail
    refine (zc _).mono ?_
    rintro e w4 ⟨rfl,rfl⟩
    go_wp2_with fail
    exact ⟨rfl,HBw3.out,by rw [HE.out]⟩
   subst h1
   by_cases h2:l2=0
   case neg=>
    have t1:((l2:Int) == 0)=false:=by simp;omega
    have HE:Hid (o=none):=by show o=none;rw [HR.out];simp [HF.out,h2]
    go_wp2_with fail
    refine (zc _).mono ?_
    rintro e w4 ⟨rfl,rfl⟩
    go_wp2_with fail
    exact ⟨rfl,HBw3.out,by rw [HE.out]⟩
   subst h2
   go_wp2_with fail
   refine (j7 _).mono ?_
   rintro e w4 ⟨rfl,rfl⟩
   go_wp2_with fail
   refine (HArg.out w3 HBw3.out).mono ?_
   rintro e w6 ⟨hB,he⟩
   have HBw6:=k8 (jg HBw3.out HBw3.out.size hB)
   replace hb2:=jb hB hb2
   replace hb3:=jb hB hb3
   replace hb4:=jb hB hb4
   replace hb5:=jb hB hb5
   replace hs2:=jb hB hs2
   replace hs5:=jb hB hs5
   replace hs6:=jb hB hs6
   have HO6:=k8 (jv HO3.out hB)
   have HNz6:Hid (N0≤w6.heap.size):=wx HNz.out hB.size
   clear hB hlb hlv HBw3 HO3 HNz
   have hlb:=k9 w6 _ hb2
   have hlv:=k9 w6 _ hs2
   cases ha:oargs with
   | none=>
    rw [ha] at he
    subst he
    have HE:Hid (o=none):=by show o=none;rw [HR.out];simp [HF.out,ha]
    go_wp2_with fail
    exact ⟨rfl,HBw6.out,by rw [HE.out]⟩
   | some ts=>
    rw [ha] at he
    obtain ⟨va,rfl,hrow⟩:=he
    have HSa:=k8 hrow
    have HA:=k8 ha
    clear hrow ha
    go_wp2_with (at_builtin;refine yj _ rfl _ _ 136 9 _ 16 rfl Tryz.underlying136 jm rfl N0 _ _ _ _ _ _ _ ?fa ?fb HO6.out HSa.out ?fc ?fd ?fe ?ff ?_)
    case fa=>rfl
    case fb=>rfl
    case fc=>exact vl _
    case fd=>exact HNz6.out
    case fe=>have:=HLw.out _ HF.out;have:=HLa.out _ HA.out;simp;omega
    case ff=>decide
    intro v7 w7 ho7 hg7
    have HO7:=k8 (show w7.ownsRow N0 9 1 v7 (words++ts).length ((words++ts).map fun t=>.string (S t)) from by simpa [Nat.add_assoc,Nat.add_comm,Nat.add_left_comm] using ho7)
    have HBw7:=k8 (j6 HBw6.out HO6.out (by omega) (by omega) hg7)
    have HNz7:Hid (N0≤w7.heap.size):=wx HNz6.out hg7.size
    replace hb2:=jo hg7 HO6.out hb2 (by omega)
    replace hb3:=jo hg7 HO6.out hb3 (by omega)
    replace hb4:=jo hg7 HO6.out hb4 (by omega)
    replace hb5:=jo hg7 HO6.out hb5 (by omega)
    replace hs2:=jo hg7 HO6.out hs2 (by omega)
    replace hs5:=jo hg7 HO6.out hs5 (by omega)
    replace hs6:=jo hg7 HO6.out hs6 (by omega)
    clear ho7 hg7 hlb hlv HBw6 HO6 HNz6 HSa
    have hlb:=k9 w7 _ hb2
    have hlv:=k9 w7 _ hs2
    go_wp2_with fail
    refine (HThn.out w7 HBw7.out).mono ?_
    rintro e w8 ⟨hB,he⟩
    have HBw8:=k8 (jg HBw7.out HBw7.out.size hB)
    replace hb2:=jb hB hb2
    replace hb3:=jb hB hb3
    replace hb4:=jb hB hb4
    replace hb5:=jb hB hb5
    replace hs2:=jb hB hs2
    replace hs5:=jb hB hs5
    replace hs6:=jb hB hs6
    have HO8:=k8 (jv HO7.out hB)
    have HNz8:Hid (N0≤w8.heap.size):=wx HNz7.out hB.size
    clear hB hlb hlv HBw7 HO7 HNz7
    have hlb:=k9 w8 _ hb2
    have hlv:=k9 w8 _ hs2
    cases ht:othn with
    | none=>
     rw [ht] at he
     subst he
     have HE:Hid (o=none):=by show o=none;rw [HR.out];simp [HF.out,HA.out,ht]
     go_wp2_with fail
     exact ⟨rfl,HBw8.out,by rw [HE.out]⟩
    | some t1=>
     rw [ht] at he
     obtain ⟨vt,rfl,hrow⟩:=he
     have HSt:=k8 hrow
     have HT:=k8 ht
     clear hrow ht
     go_wp2_with (at_builtin;refine yj _ rfl _ _ 136 9 _ 16 rfl Tryz.underlying136 jm rfl N0 _ _ _ _ _ _ _ ?ga ?gb HO8.out HSt.out ?gc ?gd ?ge ?gf ?_)
     case ga=>rfl
     case gb=>rfl
     case gc=>exact vl _
     case gd=>exact HNz8.out
     case ge=>have:=HLw.out _ HF.out;have:=HLa.out _ HA.out;have:=HLt.out _ HT.out;simp;omega
     case gf=>decide
     intro v9 w9 ho9 hg9
     have HO9:=k8 (qc (ts:=words++ts++t1) (by simpa [Nat.add_assoc,Nat.add_comm,Nat.add_left_comm] using ho9) (by simp<;>omega))
     have HBw9:=k8 (j6 HBw8.out HO8.out (by omega) (by have:=HNz8.out;omega) hg9)
     clear ho9 hg9
     have HE:Hid (o=some (jw (words++ts++t1))):=by show o=_;rw [HR.out];simp [HF.out,HA.out,HT.out]
     have HLst:=k8 (vw v9 (words++ts++t1) w9 HO9.out (by have:=HLw.out _ HF.out;have:=HLa.out _ HA.out;have:=HLt.out _ HT.out;simp;omega) (HLp.out _ HE.out))
     clear HO9
     generalize jw (words++ts++t1)=TX at *
     go_wp2_with fail
     refine HLst.out.mono ?_
     rintro e w10 ⟨rfl,hB⟩
     have HBw10:=k8 (jg HBw9.out HBw9.out.size hB)
     clear hB
     go_wp2_with fail
     go_ret
     exact ⟨HBw10.out,by rw [HE.out];rfl⟩
theorem stmtText_k2 (w:World) (n:Int) (s:ByteArray) (a0 a1 a2:Option Addr) (l0 l1 l2 c0 c1 c2:Nat) (o onum:Option Txt) (ofit oargs othn oels:Option (List Txt)) (nb:Bool) (hnb:(n != 0)=nb)
  (HFit:Hid (∀ w1,Below w.heap.size w w1→Calls Tryz.prog 188 #[.agg #[.string (S [105,102]),.bool false,.bool false,.int .i64 1,.int .i64 1,.bool true,.bool true],.string s,.bool nb,.int .i64 l0] w1 (qi w1 ofit)))
  (HArg:Hid (∀ w1,Below w.heap.size w w1→Calls Tryz.prog 189 #[.slice a0 l0 c0,.func (.func 190) #[] #[]] w1 (qi w1 oargs)))
  (HThn:Hid (∀ w1,Below w.heap.size w w1→Calls Tryz.prog 175 #[.slice a1 l1 c1,.func (.func 176) #[] #[]] w1 (qi w1 othn)))
  (HEls:Hid (∀ w1,Below w.heap.size w w1→Calls Tryz.prog 175 #[.slice a2 l2 c2,.func (.func 176) #[] #[]] w1 (qi w1 oels)))
  (HNum:Hid (∀ w1,Below w.heap.size w w1→Calls Tryz.prog 140 #[.int .i64 n] w1 (qe w1 onum)))
  (HR:Hid (o=ofit.bind fun words=>oargs.bind fun ts=>othn.bind fun t1=>oels.bind fun t2=>some (jw (words++ts++[jw t1,jw t2]))))
  (HLw:Hid (∀ ws,ofit=some ws→ws.length≤2)) (HLa:Hid (∀ ts,oargs=some ts→ts.length≤100000)) (HLt:Hid (∀ ts,othn=some ts→ts.length≤100000)) (HLe:Hid (∀ ts,oels=some ts→ts.length≤100000))
  (HLp:Hid (∀ t,o=some t→t.length≤100000000)) (HLp1:Hid (∀ t,othn=some t→(jw t).length≤100000000)) (HLp2:Hid (∀ t,oels=some t→(jw t).length≤100000000)) :
  Calls Tryz.prog 176 #[.agg #[.int .i64 2,.string s,.int .i64 n,.slice a0 l0 c0,.slice a1 l1 c1,.slice a2 l2 c2]] w (qe w o):=by
 have hB0:=k8 ((wu w.heap.size w).alloc (wo _) (.cells #[.int .i64 2,.string s,.int .i64 n,.slice a0 l0 c0,.slice a1 l1 c1,.slice a2 l2 c2] 58))
 have HNb:=k8 hnb
 clear hnb
 go_enter Tryz.func176,Tryz.ntmps176
 go_wp2_with fail
 refine (j7 _).mono ?_
 rintro e w1 ⟨rfl,rfl⟩
 go_wp2_with fail
 refine qa zi [mpShapesS,.is (.pointer (some ⟨w.heap.size,0,none⟩)),.is (.int .i64 2),mpShapeS 2,.is (.agg #[.string (S [105,102]),.bool false,.bool false,.int .i64 1,.int .i64 1,.bool true,.bool true]),mpVar (w.heap.size+1)] (by kernel_rfl) 6 rfl (by kernel_rfl) _ rfl rfl ?_ ?_
 ·refine ⟨?_,?_,?_,?_,?_,?_,trivial⟩
  ·refine jn (f:=187) rfl rfl fun x y hB hF hD=>⟨#[],?_,?_⟩
   ·simp only [execOp]
    go_simp
   ·refine (sorts_any y).mono ?_
    rintro e w' ⟨rfl,rfl⟩
    refine ⟨(wu _ _).alloc (wo _) _,.inl ⟨_,rfl,y.heap.size,rfl,fun i u hu=>?_⟩⟩
    rw [World.cell?_alloc_new];exact hu
  ·refine jc rfl rfl rfl fun x y hB hF hD=>?_
   have e1:slot x 1=.pointer (some ⟨w.heap.size,0,none⟩):=hF.at 1 rfl
   clear hB hF
   simp only [execOp,ja,e1]
   first|rfl|(go_simp;try rfl)
  ·refine jc rfl rfl rfl fun x y hB hF hD=>?_
   obtain ⟨d0,-⟩:=hD
   have e16:slot x 16=.pointer (some ⟨w.heap.size,0,none⟩):=d0 rfl
   have hc:y.cell? ⟨w.heap.size,0,none⟩=some (.int .i64 2):=(hB.cell (by simp)).trans (by simp)
   clear hB hF
   simp only [execOp,ja,e16]
   first|rfl|(go_simp;try rfl)
  ·refine zq rfl rfl fun x y hB hF hD=>?_
   obtain ⟨d0,d1,-⟩:=hD
   obtain ⟨b,e0,hcs⟩:ShapesAtS (slot x 15) y:=d0 rfl
   have e1:slot x 17=.int .i64 2:=d1 rfl
   refine ⟨.pointer (some ⟨b,2 * 7,none⟩),?_,b,rfl,hcs⟩
   clear hcs hB hF
   simp only [execOp,ja,e0,e1]
   first|rfl|(go_simp;try rfl)
  ·refine jc rfl rfl rfl fun x y hB hF hD=>?_
   obtain ⟨d0,-⟩:=hD
   obtain ⟨b,e0,hcs⟩:ShapeAtS 2 (slot x 18) y:=d0 rfl
   simp only [execOp,ja,e0]
   have h0:y.cell? ⟨b,14,none⟩=some (.string (S [105,102])):=hcs 14 _ rfl
   have h1:y.cell? ⟨b,15,none⟩=some (.bool false):=hcs 15 _ rfl
   have h2:y.cell? ⟨b,16,none⟩=some (.bool false):=hcs 16 _ rfl
   have h3:y.cell? ⟨b,17,none⟩=some (.int .i64 1):=hcs 17 _ rfl
   have h4:y.cell? ⟨b,18,none⟩=some (.int .i64 1):=hcs 18 _ rfl
   have h5:y.cell? ⟨b,19,none⟩=some (.bool true):=hcs 19 _ rfl
   have h6:y.cell? ⟨b,20,none⟩=some (.bool true):=hcs 20 _ rfl
   clear hcs hB hF
   first|rfl|(go_simp;try rfl)
  ·refine jr rfl fun x y hB hF hD=>?_
   unfold Oper.wp
   simp only [execOp]
   go_simp
   refine ⟨_,rfl,(wu _ _).alloc (wo _) _,y.heap.size,rfl,?_,?_⟩
   ·have:=hB.size;simp at this;omega
   ·exact heap_alloc_new y _
 ·intro x y hB hF hP
  obtain ⟨p0,p1,p2,p3,p4,p5,-⟩:=hP
  obtain ⟨b,e3,hb,hvar⟩:VarAt (w.heap.size+1) (slot x 3) y:=p5
  have e19:slot x 19=.agg #[.string (S [105,102]),.bool false,.bool false,.int .i64 1,.int .i64 1,.bool true,.bool true]:=p4
  have hx:=jj hF [(15,slot x 15),(16,.pointer (some ⟨w.heap.size,0,none⟩)),(17,.int .i64 2),(18,slot x 18),(19,.agg #[.string (S [105,102]),.bool false,.bool false,.int .i64 1,.int .i64 1,.bool true,.bool true]),(3,slot x 3)] rfl ⟨rfl,p1,p2,rfl,p4,rfl,trivial⟩
  rw [e3] at hx
  have HB:=k8 (hB0.out.trans (hB.mono (by simp)))
  have HBy:=k8 hB
  generalize slot x 15=v15 at *
  generalize slot x 18=v18 at *
  clear hF p0 p1 p2 p3 p4 e3 e19 hB
  subst hx
  simp only [puts,Act.put]
  have hlt:b<y.heap.size:=(wl.1 hvar).1
  have hv:∀ j,j<7→y.cell? ⟨b,j,none⟩=qy[j]?:=fun j _=>by simp [World.cell?,hvar]
  have hv0:=hv 0 (by omega)
  have hv1:=hv 1 (by omega)
  have hv2:=hv 2 (by omega)
  have hv3:=hv 3 (by omega)
  have hv4:=hv 4 (by omega)
  have hv5:=hv 5 (by omega)
  have hv6:=hv 6 (by omega)
  simp only [qy] at hv0 hv1 hv2 hv3 hv4 hv5 hv6
  have hz:∀ j,y.frozen? ⟨b,j,none⟩=false:=fun j=>by simp [World.frozen?,hvar]
  clear hv
  have HV:=k8 hvar
  clear hvar
  unfold Oper.wp
  simp only [execOp]
  go_simp
  have HSet:=k8 (setRow_heap b [.string (S [105,102]),.bool false,.bool false,.int .i64 1,.int .i64 1,.bool true,.bool true] y 0 qy 212 HV.out)
  have HWB:=k8 (qt (B:=w.heap.size) b (by omega) [.string (S [105,102]),.bool false,.bool false,.int .i64 1,.int .i64 1,.bool true,.bool true] y 0 HB.out)
  have HWB1:=k8 (qt (B:=w.heap.size+1) b hb [.string (S [105,102]),.bool false,.bool false,.int .i64 1,.int .i64 1,.bool true,.bool true] y 0 (HBy.out.mono (by simp)))
  simp only [setRow,Nat.zero_add,Nat.reduceAdd] at HSet HWB HWB1
  generalize (((((((y.setCell ⟨b,0,none⟩ (.string (S [105,102]))).setCell ⟨b,1,none⟩ (.bool false)).setCell ⟨b,2,none⟩ (.bool false)).setCell ⟨b,3,none⟩ (.int .i64 1)).setCell ⟨b,4,none⟩ (.int .i64 1)).setCell ⟨b,5,none⟩ (.bool true)).setCell ⟨b,6,none⟩ (.bool true))=W at *
  obtain ⟨ds,hds,hdz,-,hdc,-⟩:=HSet.out
  clear HSet HV hz hv0 hv1 hv2 hv3 hv4 hv5 hv6 HBy
  have hs0:W.cell? ⟨b,0,none⟩=some (.string (S [105,102])):=by simpa [World.cell?,hds] using hdc 0 _ rfl (by decide)
  have hs1:W.cell? ⟨b,1,none⟩=some (.bool false):=by simpa [World.cell?,hds] using hdc 1 _ rfl (by decide)
  have hs2:W.cell? ⟨b,2,none⟩=some (.bool false):=by simpa [World.cell?,hds] using hdc 2 _ rfl (by decide)
  have hs3:W.cell? ⟨b,3,none⟩=some (.int .i64 1):=by simpa [World.cell?,hds] using hdc 3 _ rfl (by decide)
  have hs4:W.cell? ⟨b,4,none⟩=some (.int .i64 1):=by simpa [World.cell?,hds] using hdc 4 _ rfl (by decide)
  have hs5:W.cell? ⟨b,5,none⟩=some (.bool true):=by simpa [World.cell?,hds] using hdc 5 _ rfl (by decide)
  have hs6:W.cell? ⟨b,6,none⟩=some (.bool true):=by simpa [World.cell?,hds] using hdc 6 _ rfl (by decide)
  have hb1:W.cell? ⟨w.heap.size,1,none⟩=some (.string s):=(HWB1.out.cell (by simp)).trans (by simp)
  have hb2:W.cell? ⟨w.heap.size,2,none⟩=some (.int .i64 n):=(HWB1.out.cell (by simp)).trans (by simp)
  have hb3:W.cell? ⟨w.heap.size,3,none⟩=some (.slice a0 l0 c0):=(HWB1.out.cell (by simp)).trans (by simp)
  have hb4:W.cell? ⟨w.heap.size,4,none⟩=some (.slice a1 l1 c1):=(HWB1.out.cell (by simp)).trans (by simp)
  have hb5:W.cell? ⟨w.heap.size,5,none⟩=some (.slice a2 l2 c2):=(HWB1.out.cell (by simp)).trans (by simp)
  have HBW:=k8 HWB.out
  clear hds hdz hdc HWB HWB1 HB hlt
  have hlb:w.heap.size<W.heap.size:=k9 W _ hb1
  have hlv:b<W.heap.size:=k9 W _ hs0
  obtain ⟨N0,hN0⟩:∃ n,n=W.heap.size:=⟨_,rfl⟩
  have hN1:w.heap.size<N0:=by omega
  have hN2:b<N0:=by omega
  have HN0:=k8 hN0
  clear hN0
  have hnb:=HNb.out
  go_wp2_with fail
  clear hnb
  refine (HFit.out W HBW.out).mono ?_
  rintro e w3 ⟨hB,he⟩
  have HBw3:=k8 (jg HBW.out HBW.out.size hB)
  replace hb2:=jb hB hb2
  replace hb3:=jb hB hb3
  replace hb4:=jb hB hb4
  replace hb5:=jb hB hb5
  replace hs2:=jb hB hs2
  replace hs5:=jb hB hs5
  replace hs6:=jb hB hs6
  clear hlb hlv hs0 hs1 hs3 hs4 hb1 HBW
  have hz3:=hB.size
  clear hB
  have hlb:=k9 w3 _ hb2
  have hlv:=k9 w3 _ hs2
  cases hf:ofit with
  | none=>
   rw [hf] at he
   subst he
   have HE:Hid (o=none):=by show o=none;rw [HR.out];simp [hf]
   go_wp2_with fail
   exact ⟨rfl,HBw3.out,by rw [HE.out]⟩
  | some words=>
   rw [hf] at he
   obtain ⟨v4,rfl,hrow⟩:=he
   have HO3:=k8 (HN0.out ▸ hrow:w3.ownsRow N0 9 1 v4 words.length (words.map fun t=>.string (S t)))
   have HF:=k8 hf
   have HNz:Hid (N0≤w3.heap.size):=HN0.out ▸ hz3
   clear hrow hf hz3
   go_wp2_with fail
   refine (j7 _).mono ?_
   rintro e w4 ⟨rfl,rfl⟩
   go_wp2_with fail
   refine (HArg.out w3 HBw3.out).mono ?_
   rintro e w6 ⟨hB,he⟩
   have HBw6:=k8 (jg HBw3.out HBw3.out.size hB)
   replace hb2:=jb hB hb2
   replace hb3:=jb hB hb3
   replace hb4:=jb hB hb4
   replace hb5:=jb hB hb5
   replace hs2:=jb hB hs2
   replace hs5:=jb hB hs5
   replace hs6:=jb hB hs6
   have HO6:=k8 (jv HO3.out hB)
   have HNz6:Hid (N0≤w6.heap.size):=wx HNz.out hB.size
   clear hB hlb hlv HBw3 HO3 HNz
   have hlb:=k9 w6 _ hb2
   have hlv:=k9 w6 _ hs2
   cases ha:oargs with
   | none=>
    rw [ha] at he
    subst he
    have HE:Hid (o=none):=by show o=none;rw [HR.out];simp [HF.out,ha]
    go_wp2_with fail
    exact ⟨rfl,HBw6.out,by rw [HE.out]⟩
   | some ts=>
    rw [ha] at he
    obtain ⟨va,rfl,hrow⟩:=he
    have HSa:=k8 hrow
    have HA:=k8 ha
    clear hrow ha
    go_wp2_with (at_builtin;refine yj _ rfl _ _ 136 9 _ 16 rfl Tryz.underlying136 jm rfl N0 _ _ _ _ _ _ _ ?fa ?fb HO6.out HSa.out ?fc ?fd ?fe ?ff ?_)
    case fa=>rfl
    case fb=>rfl
    case fc=>exact vl _
    case fd=>exact HNz6.out
    case fe=>have:=HLw.out _ HF.out;have:=HLa.out _ HA.out;simp;omega
    case ff=>decide
    intro v7 w7 ho7 hg7
    have HO7:=k8 (show w7.ownsRow N0 9 1 v7 (words++ts).length ((words++ts).map fun t=>.string (S t)) from by simpa [Nat.add_assoc,Nat.add_comm,Nat.add_left_comm] using ho7)
    have HBw7:=k8 (j6 HBw6.out HO6.out (by omega) (by omega) hg7)
    have HNz7:Hid (N0≤w7.heap.size):=wx HNz6.out hg7.size
    replace hb2:=jo hg7 HO6.out hb2 (by omega)
    replace hb3:=jo hg7 HO6.out hb3 (by omega)
    replace hb4:=jo hg7 HO6.out hb4 (by omega)
    replace hb5:=jo hg7 HO6.out hb5 (by omega)
    replace hs2:=jo hg7 HO6.out hs2 (by omega)
    replace hs5:=jo hg7 HO6.out hs5 (by omega)
    replace hs6:=jo hg7 HO6.out hs6 (by omega)
    clear ho7 hg7 hlb hlv HBw6 HO6 HNz6 HSa
    have hlb:=k9 w7 _ hb2
    have hlv:=k9 w7 _ hs2
    go_wp2_with fail
    refine (HThn.out w7 HBw7.out).mono ?_
    rintro e w8 ⟨hB,he⟩
    have HBw8:=k8 (jg HBw7.out HBw7.out.size hB)
    replace hb2:=jb hB hb2
    replace hb3:=jb hB hb3
    replace hb4:=jb hB hb4
    replace hb5:=jb hB hb5
    replace hs2:=jb hB hs2
    replace hs5:=jb hB hs5
    replace hs6:=jb hB hs6
    have HO8:=k8 (jv HO7.out hB)
    have HNz8:Hid (N0≤w8.heap.size):=wx HNz7.out hB.size
    clear hB hlb hlv HBw7 HO7 HNz7
    have hlb:=k9 w8 _ hb2
    have hlv:=k9 w8 _ hs2
    cases ht:othn with
    | none=>
     rw [ht] at he
     subst he
     have HE:Hid (o=none):=by show o=none;rw [HR.out];simp [HF.out,HA.out,ht]
     go_wp2_with fail
     exact ⟨rfl,HBw8.out,by rw [HE.out]⟩
    | some t1=>
     rw [ht] at he
     obtain ⟨vt,rfl,hrow⟩:=he
     have HSt:=k8 hrow
     have HT:=k8 ht
     clear hrow ht
     have HTS:=k8 (qc HSt.out rfl)
     have HL1:=k8 (HLp1.out _ HT.out)
     have Hb5:=k8 hb5
     have hzw8:=HBw8.out.size
     cases hel:oels with
     | none=>
      have HE:Hid (o=none):=by show o=none;rw [HR.out];simp [HF.out,HA.out,HT.out,hel]
      go_wp2_with fail
      refine qa zi [mpSl t1,.is (.string (S (jw t1))),.is (.pointer (some ⟨w.heap.size,5,none⟩)),.is (.slice a2 l2 c2),mpNever,mpNever,mpNever] (by kernel_rfl) 7 rfl (by kernel_rfl) _ rfl rfl ?_ ?_
      ·refine ⟨?_,?_,?_,?_,?_,?_,?_,trivial⟩
       ·refine zq rfl rfl fun x y hB hF hD=>?_
        have e5:slot x 5=vt:=hF.at 5 rfl
        exact ⟨vt,by simp only [execOp,ja,e5];rfl,(HTS.out).below hB⟩
       ·refine jn (f:=138) rfl rfl fun x y hB hF hD=>⟨#[slot x 67],?_,?_⟩
        ·have g67:=jh (show slot x 67=slot x 67 from rfl)
         clear hB hF hD
         simp only [execOp]
         simp [go_sem,g67]
        ·obtain ⟨d0,-⟩:=hD
         refine (vw (slot x 67) t1 y (d0 rfl) (by have:=HLt.out _ HT.out;omega) HL1.out).mono ?_
         rintro e w' ⟨rfl,hb⟩
         exact ⟨hb,.inl ⟨_,rfl,rfl⟩⟩
       ·refine jc rfl rfl rfl fun x y hB hF hD=>?_
        have e1:slot x 1=.pointer (some ⟨w.heap.size,0,none⟩):=hF.at 1 rfl
        clear hB hF
        simp only [execOp,ja,e1]
        first|rfl|(go_simp;try rfl)
       ·refine jc rfl rfl rfl fun x y hB hF hD=>?_
        obtain ⟨d0,-⟩:=hD
        have e69:slot x 69=.pointer (some ⟨w.heap.size,5,none⟩):=d0 rfl
        have hc:y.cell? ⟨w.heap.size,5,none⟩=some (.slice a2 l2 c2):=jb hB Hb5.out
        clear hB hF
        simp only [execOp,ja,e69]
        first|rfl|(go_simp;try rfl)
       ·refine jn (f:=175) rfl rfl fun x y hB hF hD=>⟨#[.slice a2 l2 c2,.func (.func 176) #[] #[]],?_,?_⟩
        ·obtain ⟨d0,-⟩:=hD
         have e70:slot x 70=.slice a2 l2 c2:=d0 rfl
         have g70:=jh e70
         clear hB hF e70
         simp only [execOp]
         simp [go_sem,g70]
        ·refine (HEls.out y (HBw8.out.trans (hB.mono (by omega)))).mono ?_
         rintro e w' ⟨hb,he⟩
         rw [hel] at he
         subst he
         refine ⟨hb,.inr ⟨_,rfl,hF.defers,HBw8.out.trans ((hB.trans (hb.mono hB.size)).mono (by omega)),?_⟩⟩
         rw [HE.out]
       ·refine jr rfl fun x y hB hF hD=>?_
        obtain ⟨d0,-⟩:=hD
        exact False.elim (d0 rfl)
       ·refine jr rfl fun x y hB hF hD=>?_
        obtain ⟨d0,d1,-⟩:=hD
        exact False.elim (d1 rfl)
      ·intro x y hB hF hP
       exact False.elim hP.2.2.2.2.1
     | some t2=>
      have HEl:=k8 hel
      have HL2:=k8 (HLp2.out _ hel)
      go_wp2_with fail
      refine qa zi [mpSl t1,.is (.string (S (jw t1))),.is (.pointer (some ⟨w.heap.size,5,none⟩)),.is (.slice a2 l2 c2),mpSl t2,.is (.string (S (jw t2))),mpRow [jw t1,jw t2] w.heap.size] (by kernel_rfl) 7 rfl (by kernel_rfl) _ rfl rfl ?_ ?_
      ·refine ⟨?_,?_,?_,?_,?_,?_,?_,trivial⟩
       ·refine zq rfl rfl fun x y hB hF hD=>?_
        have e5:slot x 5=vt:=hF.at 5 rfl
        exact ⟨vt,by simp only [execOp,ja,e5];rfl,(HTS.out).below hB⟩
       ·refine jn (f:=138) rfl rfl fun x y hB hF hD=>⟨#[slot x 67],?_,?_⟩
        ·have g67:=jh (show slot x 67=slot x 67 from rfl)
         clear hB hF hD
         simp only [execOp]
         simp [go_sem,g67]
        ·obtain ⟨d0,-⟩:=hD
         refine (vw (slot x 67) t1 y (d0 rfl) (by have:=HLt.out _ HT.out;omega) HL1.out).mono ?_
         rintro e w' ⟨rfl,hb⟩
         exact ⟨hb,.inl ⟨_,rfl,rfl⟩⟩
       ·refine jc rfl rfl rfl fun x y hB hF hD=>?_
        have e1:slot x 1=.pointer (some ⟨w.heap.size,0,none⟩):=hF.at 1 rfl
        clear hB hF
        simp only [execOp,ja,e1]
        first|rfl|(go_simp;try rfl)
       ·refine jc rfl rfl rfl fun x y hB hF hD=>?_
        obtain ⟨d0,-⟩:=hD
        have e69:slot x 69=.pointer (some ⟨w.heap.size,5,none⟩):=d0 rfl
        have hc:y.cell? ⟨w.heap.size,5,none⟩=some (.slice a2 l2 c2):=jb hB Hb5.out
        clear hB hF
        simp only [execOp,ja,e69]
        first|rfl|(go_simp;try rfl)
       ·refine jn (f:=175) rfl rfl fun x y hB hF hD=>⟨#[.slice a2 l2 c2,.func (.func 176) #[] #[]],?_,?_⟩
        ·obtain ⟨d0,-⟩:=hD
         have e70:slot x 70=.slice a2 l2 c2:=d0 rfl
         have g70:=jh e70
         clear hB hF e70
         simp only [execOp]
         simp [go_sem,g70]
        ·refine (HEls.out y (HBw8.out.trans (hB.mono (by omega)))).mono ?_
         rintro e w' ⟨hb,he⟩
         rw [hel] at he
         obtain ⟨v,rfl,hrow⟩:=he
         exact ⟨hb,.inl ⟨v,rfl,qc hrow rfl⟩⟩
       ·refine jn (f:=138) rfl rfl fun x y hB hF hD=>⟨#[slot x 71],?_,?_⟩
        ·have g71:=jh (show slot x 71=slot x 71 from rfl)
         clear hB hF hD
         simp only [execOp]
         simp [go_sem,g71]
        ·obtain ⟨d0,-⟩:=hD
         refine (vw (slot x 71) t2 y (d0 rfl) (by have:=HLe.out _ HEl.out;omega) HL2.out).mono ?_
         rintro e w' ⟨rfl,hb⟩
         exact ⟨hb,.inl ⟨_,rfl,rfl⟩⟩
       ·refine jr rfl fun x y hB hF hD=>?_
        obtain ⟨d0,d1,-⟩:=hD
        have e68:slot x 68=.string (S (jw t1)):=d0 rfl
        have e72:slot x 72=.string (S (jw t2)):=d1 rfl
        have g68:=jh e68
        have g72:=jh e72
        have hzz:=hB.size
        clear hB hF e68 e72
        unfold Oper.wp
        simp only [execOp]
        simp [go_sem,g68,g72]
        refine ⟨_,rfl,(wu _ _).alloc (wo _) _,?_⟩
        exact own_two y w.heap.size (S (jw t1)) (S (jw t2)) (by omega)
      ·intro x y hB hF hP
       obtain ⟨p0,p1,p2,p3,p4,p5,p6,-⟩:=hP
       have hx:=jj hF [(67,slot x 67),(68,.string (S (jw t1))),(69,.pointer (some ⟨w.heap.size,5,none⟩)),(70,.slice a2 l2 c2),(71,slot x 71),(72,.string (S (jw t2))),(73,slot x 73)] rfl ⟨rfl,p1,p2,p3,rfl,p5,rfl,trivial⟩
       have HSo:=k8 (show y.ownsRow w.heap.size 9 1 (slot x 73) 2 ([jw t1,jw t2].map fun t=>.string (S t)) from p6)
       have HBy:=k8 (jg HBw8.out hzw8 hB)
       have HOy:=k8 (jv HO8.out hB)
       have HNz9:Hid (N0≤y.heap.size):=wx HNz8.out hB.size
       clear hB hF p0 p1 p2 p3 p4 p5 p6 hb2 hb3 hb4 hb5 hs2 hs5 hs6 hlb hlv
       generalize slot x 67=u67 at *
       generalize slot x 71=u71 at *
       generalize slot x 73=u73 at *
       subst hx
       simp only [puts,Act.put]
       unfold Oper.wp
       simp only [execOp]
       go_simp
       go_wp2_with (at_builtin;refine yj _ rfl _ _ 136 9 _ 16 rfl Tryz.underlying136 jm rfl N0 _ _ _ _ _ _ _ ?ga ?gb HOy.out HSo.out ?gc ?gd ?ge ?gf ?_)
       case ga=>rfl
       case gb=>rfl
       case gc=>exact vl _
       case gd=>exact HNz9.out
       case ge=>have:=HLw.out _ HF.out;have:=HLa.out _ HA.out;have:=HLt.out _ HT.out;simp;omega
       case gf=>decide
       intro v9 w9 ho9 hg9
       have HO9:=k8 (qc (ts:=words++ts++[jw t1,jw t2]) (by simpa [Nat.add_assoc,Nat.add_comm,Nat.add_left_comm] using ho9) (by simp<;>omega))
       have HBw9:=k8 (j6 HBy.out HOy.out (by omega) (by have:=HNz9.out;omega) hg9)
       clear ho9 hg9
       have HE:Hid (o=some (jw (words++ts++[jw t1,jw t2]))):=by show o=_;rw [HR.out];simp [HF.out,HA.out,HT.out,HEl.out]
       have HLst:=k8 (vw v9 (words++ts++[jw t1,jw t2]) w9 HO9.out (by have:=HLw.out _ HF.out;have:=HLa.out _ HA.out;have:=HLt.out _ HT.out;simp;omega) (HLp.out _ HE.out))
       clear HO9
       generalize jw (words++ts++[jw t1,jw t2])=TX at *
       go_wp2_with fail
       refine HLst.out.mono ?_
       rintro e w10 ⟨rfl,hB⟩
       have HBw10:=k8 (jg HBw9.out HBw9.out.size hB)
       clear hB
       go_wp2_with fail
       go_ret
       exact ⟨HBw10.out,by rw [HE.out];rfl⟩
theorem stmtText_k3 (w:World) (n:Int) (s:ByteArray) (a0 a1 a2:Option Addr) (l0 l1 l2 c0 c1 c2:Nat) (o onum:Option Txt) (ofit oargs othn oels:Option (List Txt)) (nb:Bool) (hnb:(n != 0)=nb)
  (HFit:Hid (∀ w1,Below w.heap.size w w1→Calls Tryz.prog 188 #[.agg #[.string (S [102,111,114]),.bool true,.bool true,.int .i64 0,.int .i64 0,.bool true,.bool false],.string s,.bool nb,.int .i64 l0] w1 (qi w1 ofit)))
  (HArg:Hid (∀ w1,Below w.heap.size w w1→Calls Tryz.prog 189 #[.slice a0 l0 c0,.func (.func 190) #[] #[]] w1 (qi w1 oargs)))
  (HThn:Hid (∀ w1,Below w.heap.size w w1→Calls Tryz.prog 175 #[.slice a1 l1 c1,.func (.func 176) #[] #[]] w1 (qi w1 othn)))
  (HEls:Hid (∀ w1,Below w.heap.size w w1→Calls Tryz.prog 175 #[.slice a2 l2 c2,.func (.func 176) #[] #[]] w1 (qi w1 oels)))
  (HNum:Hid (∀ w1,Below w.heap.size w w1→Calls Tryz.prog 140 #[.int .i64 n] w1 (qe w1 onum)))
  (HR:Hid (o=ofit.bind fun words=>if l2=0 then onum.bind fun d=>oargs.bind fun ts=>othn.bind fun t1=>some (jw (words++[d]++ts++t1)) else none))
  (HLw:Hid (∀ ws,ofit=some ws→ws.length≤2)) (HLa:Hid (∀ ts,oargs=some ts→ts.length≤100000)) (HLt:Hid (∀ ts,othn=some ts→ts.length≤100000)) (HLe:Hid (∀ ts,oels=some ts→ts.length≤100000))
  (HLp:Hid (∀ t,o=some t→t.length≤100000000)) (HLp1:Hid (∀ t,othn=some t→(jw t).length≤100000000)) (HLp2:Hid (∀ t,oels=some t→(jw t).length≤100000000)) :
  Calls Tryz.prog 176 #[.agg #[.int .i64 3,.string s,.int .i64 n,.slice a0 l0 c0,.slice a1 l1 c1,.slice a2 l2 c2]] w (qe w o):=by
 have hB0:=k8 ((wu w.heap.size w).alloc (wo _) (.cells #[.int .i64 3,.string s,.int .i64 n,.slice a0 l0 c0,.slice a1 l1 c1,.slice a2 l2 c2] 58))
 have HNb:=k8 hnb
 clear hnb
 go_enter Tryz.func176,Tryz.ntmps176
 go_wp2_with fail
 refine (j7 _).mono ?_
 rintro e w1 ⟨rfl,rfl⟩
 go_wp2_with fail
 refine qa zi [mpShapesS,.is (.pointer (some ⟨w.heap.size,0,none⟩)),.is (.int .i64 3),mpShapeS 3,.is (.agg #[.string (S [102,111,114]),.bool true,.bool true,.int .i64 0,.int .i64 0,.bool true,.bool false]),mpVar (w.heap.size+1)] (by kernel_rfl) 6 rfl (by kernel_rfl) _ rfl rfl ?_ ?_
 ·refine ⟨?_,?_,?_,?_,?_,?_,trivial⟩
  ·refine jn (f:=187) rfl rfl fun x y hB hF hD=>⟨#[],?_,?_⟩
   ·simp only [execOp]
    go_simp
   ·refine (sorts_any y).mono ?_
    rintro e w' ⟨rfl,rfl⟩
    refine ⟨(wu _ _).alloc (wo _) _,.inl ⟨_,rfl,y.heap.size,rfl,fun i u hu=>?_⟩⟩
    rw [World.cell?_alloc_new];exact hu
  ·refine jc rfl rfl rfl fun x y hB hF hD=>?_
   have e1:slot x 1=.pointer (some ⟨w.heap.size,0,none⟩):=hF.at 1 rfl
   clear hB hF
   simp only [execOp,ja,e1]
   first|rfl|(go_simp;try rfl)
  ·refine jc rfl rfl rfl fun x y hB hF hD=>?_
   obtain ⟨d0,-⟩:=hD
   have e16:slot x 16=.pointer (some ⟨w.heap.size,0,none⟩):=d0 rfl
   have hc:y.cell? ⟨w.heap.size,0,none⟩=some (.int .i64 3):=(hB.cell (by simp)).trans (by simp)
   clear hB hF
   simp only [execOp,ja,e16]
   first|rfl|(go_simp;try rfl)
  ·refine zq rfl rfl fun x y hB hF hD=>?_
   obtain ⟨d0,d1,-⟩:=hD
   obtain ⟨b,e0,hcs⟩:ShapesAtS (slot x 15) y:=d0 rfl
   have e1:slot x 17=.int .i64 3:=d1 rfl
   refine ⟨.pointer (some ⟨b,3 * 7,none⟩),?_,b,rfl,hcs⟩
   clear hcs hB hF
   simp only [execOp,ja,e0,e1]
   first|rfl|(go_simp;try rfl)
  ·refine jc rfl rfl rfl fun x y hB hF hD=>?_
   obtain ⟨d0,-⟩:=hD
   obtain ⟨b,e0,hcs⟩:ShapeAtS 3 (slot x 18) y:=d0 rfl
   simp only [execOp,ja,e0]
   have h0:y.cell? ⟨b,21,none⟩=some (.string (S [102,111,114])):=hcs 21 _ rfl
   have h1:y.cell? ⟨b,22,none⟩=some (.bool true):=hcs 22 _ rfl
   have h2:y.cell? ⟨b,23,none⟩=some (.bool true):=hcs 23 _ rfl
   have h3:y.cell? ⟨b,24,none⟩=some (.int .i64 0):=hcs 24 _ rfl
   have h4:y.cell? ⟨b,25,none⟩=some (.int .i64 0):=hcs 25 _ rfl
   have h5:y.cell? ⟨b,26,none⟩=some (.bool true):=hcs 26 _ rfl
   have h6:y.cell? ⟨b,27,none⟩=some (.bool false):=hcs 27 _ rfl
   clear hcs hB hF
   first|rfl|(go_simp;try rfl)
  ·refine jr rfl fun x y hB hF hD=>?_
   unfold Oper.wp
   simp only [execOp]
   go_simp
   refine ⟨_,rfl,(wu _ _).alloc (wo _) _,y.heap.size,rfl,?_,?_⟩
   ·have:=hB.size;simp at this;omega
   ·exact heap_alloc_new y _
 ·intro x y hB hF hP
  obtain ⟨p0,p1,p2,p3,p4,p5,-⟩:=hP
  obtain ⟨b,e3,hb,hvar⟩:VarAt (w.heap.size+1) (slot x 3) y:=p5
  have e19:slot x 19=.agg #[.string (S [102,111,114]),.bool true,.bool true,.int .i64 0,.int .i64 0,.bool true,.bool false]:=p4
  have hx:=jj hF [(15,slot x 15),(16,.pointer (some ⟨w.heap.size,0,none⟩)),(17,.int .i64 3),(18,slot x 18),(19,.agg #[.string (S [102,111,114]),.bool true,.bool true,.int .i64 0,.int .i64 0,.bool true,.bool false]),(3,slot x 3)] rfl ⟨rfl,p1,p2,rfl,p4,rfl,trivial⟩
  rw [e3] at hx
  have HB:=k8 (hB0.out.trans (hB.mono (by simp)))
  have HBy:=k8 hB
  generalize slot x 15=v15 at *
  generalize slot x 18=v18 at *
  clear hF p0 p1 p2 p3 p4 e3 e19 hB
  subst hx
  simp only [puts,Act.put]
  have hlt:b<y.heap.size:=(wl.1 hvar).1
  have hv:∀ j,j<7→y.cell? ⟨b,j,none⟩=qy[j]?:=fun j _=>by simp [World.cell?,hvar]
  have hv0:=hv 0 (by omega)
  have hv1:=hv 1 (by omega)
  have hv2:=hv 2 (by omega)
  have hv3:=hv 3 (by omega)
  have hv4:=hv 4 (by omega)
  have hv5:=hv 5 (by omega)
  have hv6:=hv 6 (by omega)
  simp only [qy] at hv0 hv1 hv2 hv3 hv4 hv5 hv6
  have hz:∀ j,y.frozen? ⟨b,j,none⟩=false:=fun j=>by simp [World.frozen?,hvar]
  clear hv
  have HV:=k8 hvar
  clear hvar
  unfold Oper.wp
  simp only [execOp]
  go_simp
  have HSet:=k8 (setRow_heap b [.string (S [102,111,114]),.bool true,.bool true,.int .i64 0,.int .i64 0,.bool true,.bool false] y 0 qy 212 HV.out)
  have HWB:=k8 (qt (B:=w.heap.size) b (by omega) [.string (S [102,111,114]),.bool true,.bool true,.int .i64 0,.int .i64 0,.bool true,.bool false] y 0 HB.out)
  have HWB1:=k8 (qt (B:=w.heap.size+1) b hb [.string (S [102,111,114]),.bool true,.bool true,.int .i64 0,.int .i64 0,.bool true,.bool false] y 0 (HBy.out.mono (by simp)))
  simp only [setRow,Nat.zero_add,Nat.reduceAdd] at HSet HWB HWB1
  generalize (((((((y.setCell ⟨b,0,none⟩ (.string (S [102,111,114]))).setCell ⟨b,1,none⟩ (.bool true)).setCell ⟨b,2,none⟩ (.bool true)).setCell ⟨b,3,none⟩ (.int .i64 0)).setCell ⟨b,4,none⟩ (.int .i64 0)).setCell ⟨b,5,none⟩ (.bool true)).setCell ⟨b,6,none⟩ (.bool false))=W at *
  obtain ⟨ds,hds,hdz,-,hdc,-⟩:=HSet.out
  clear HSet HV hz hv0 hv1 hv2 hv3 hv4 hv5 hv6 HBy
  have hs0:W.cell? ⟨b,0,none⟩=some (.string (S [102,111,114])):=by simpa [World.cell?,hds] using hdc 0 _ rfl (by decide)
  have hs1:W.cell? ⟨b,1,none⟩=some (.bool true):=by simpa [World.cell?,hds] using hdc 1 _ rfl (by decide)
  have hs2:W.cell? ⟨b,2,none⟩=some (.bool true):=by simpa [World.cell?,hds] using hdc 2 _ rfl (by decide)
  have hs3:W.cell? ⟨b,3,none⟩=some (.int .i64 0):=by simpa [World.cell?,hds] using hdc 3 _ rfl (by decide)
  have hs4:W.cell? ⟨b,4,none⟩=some (.int .i64 0):=by simpa [World.cell?,hds] using hdc 4 _ rfl (by decide)
  have hs5:W.cell? ⟨b,5,none⟩=some (.bool true):=by simpa [World.cell?,hds] using hdc 5 _ rfl (by decide)
  have hs6:W.cell? ⟨b,6,none⟩=some (.bool false):=by simpa [World.cell?,hds] using hdc 6 _ rfl (by decide)
  have hb1:W.cell? ⟨w.heap.size,1,none⟩=some (.string s):=(HWB1.out.cell (by simp)).trans (by simp)
  have hb2:W.cell? ⟨w.heap.size,2,none⟩=some (.int .i64 n):=(HWB1.out.cell (by simp)).trans (by simp)
  have hb3:W.cell? ⟨w.heap.size,3,none⟩=some (.slice a0 l0 c0):=(HWB1.out.cell (by simp)).trans (by simp)
  have hb4:W.cell? ⟨w.heap.size,4,none⟩=some (.slice a1 l1 c1):=(HWB1.out.cell (by simp)).trans (by simp)
  have hb5:W.cell? ⟨w.heap.size,5,none⟩=some (.slice a2 l2 c2):=(HWB1.out.cell (by simp)).trans (by simp)
  have HBW:=k8 HWB.out
  clear hds hdz hdc HWB HWB1 HB hlt
  have hlb:w.heap.size<W.heap.size:=k9 W _ hb1
  have hlv:b<W.heap.size:=k9 W _ hs0
  obtain ⟨N0,hN0⟩:∃ n,n=W.heap.size:=⟨_,rfl⟩
  have hN1:w.heap.size<N0:=by omega
  have hN2:b<N0:=by omega
  have HN0:=k8 hN0
  clear hN0
  have hnb:=HNb.out
  go_wp2_with fail
  clear hnb
  refine (HFit.out W HBW.out).mono ?_
  rintro e w3 ⟨hB,he⟩
  have HBw3:=k8 (jg HBW.out HBW.out.size hB)
  replace hb2:=jb hB hb2
  replace hb3:=jb hB hb3
  replace hb4:=jb hB hb4
  replace hb5:=jb hB hb5
  replace hs2:=jb hB hs2
  replace hs5:=jb hB hs5
  replace hs6:=jb hB hs6
  clear hlb hlv hs0 hs1 hs3 hs4 hb1 HBW
  have hz3:=hB.size
  clear hB
  have hlb:=k9 w3 _ hb2
  have hlv:=k9 w3 _ hs2
  cases hf:ofit with
  | none=>
   rw [hf] at he
   subst he
   have HE:Hid (o=none):=by show o=none;rw [HR.out];simp [hf]
   go_wp2_with fail
   exact ⟨rfl,HBw3.out,by rw [HE.out]⟩
  | some words=>
   rw [hf] at he
   obtain ⟨v4,rfl,hrow⟩:=he
   have HO3:=k8 (HN0.out ▸ hrow:w3.ownsRow N0 9 1 v4 words.length (words.map fun t=>.string (S t)))
   have HF:=k8 hf
   have HNz:Hid (N0≤w3.heap.size):=HN0.out ▸ hz3
   clear hrow hf hz3
   by_cases h2:l2=0
   case neg=>
    have t1:((l2:Int) == 0)=false:=by simp;omega
    have HE:Hid (o=none):=by show o=none;rw [HR.out];simp [HF.out,h2]
    go_wp2_with fail
    refine (zc _).mono ?_
    rintro e w4 ⟨rfl,rfl⟩
    go_wp2_with fail
    exact ⟨rfl,HBw3.out,by rw [HE.out]⟩
   subst h2
   go_wp2_with fail
   refine (j7 _).mono ?_
   rintro e w4 ⟨rfl,rfl⟩
   go_wp2_with fail
   refine (HNum.out w3 HBw3.out).mono ?_
   rintro e w4 ⟨hB,he⟩
   have HBw4:=k8 (jg HBw3.out HBw3.out.size hB)
   replace hb2:=jb hB hb2
   replace hb3:=jb hB hb3
   replace hb4:=jb hB hb4
   replace hb5:=jb hB hb5
   replace hs2:=jb hB hs2
   replace hs5:=jb hB hs5
   replace hs6:=jb hB hs6
   have HO4:=k8 (jv HO3.out hB)
   have HNz4:Hid (N0≤w4.heap.size):=wx HNz.out hB.size
   clear hB hlb hlv HBw3 HO3 HNz
   have hlb:=k9 w4 _ hb2
   have hlv:=k9 w4 _ hs2
   cases hd:onum with
   | none=>
    rw [hd] at he
    subst he
    have HE:Hid (o=none):=by show o=none;rw [HR.out];simp [HF.out,hd]
    go_wp2_with fail
    exact ⟨rfl,HBw4.out,by rw [HE.out]⟩
   | some d=>
    rw [hd] at he
    subst he
    have HD:=k8 hd
    clear hd
    go_wp2_with (at_builtin;refine ke _ rfl _ _ 136 9 _ 16 rfl Tryz.underlying136 jm rfl N0 words.length _ _ _ ?ea _ rfl ?eb ?ec HO4.out ?ed ?ee ?ef ?_)
    case ea=>rfl
    case eb=>simp
    case ec=>rfl
    case ed=>exact HNz4.out
    case ee=>have:=HLw.out _ HF.out;omega
    case ef=>decide
    intro v5 w5 ho5 hg5
    have HO5:=k8 (show w5.ownsRow N0 9 1 v5 (words++[d]).length ((words++[d]).map fun t=>.string (S t)) from by simpa using ho5)
    have HBw5:=k8 (j6 HBw4.out HO4.out (by omega) (by omega) hg5)
    have HNz:Hid (N0≤w5.heap.size):=wx HNz4.out hg5.size
    replace hb2:=jo hg5 HO4.out hb2 (by omega)
    replace hb3:=jo hg5 HO4.out hb3 (by omega)
    replace hb4:=jo hg5 HO4.out hb4 (by omega)
    replace hb5:=jo hg5 HO4.out hb5 (by omega)
    replace hs2:=jo hg5 HO4.out hs2 (by omega)
    replace hs5:=jo hg5 HO4.out hs5 (by omega)
    replace hs6:=jo hg5 HO4.out hs6 (by omega)
    clear ho5 hg5 hlb hlv HBw4 HO4 HNz4
    have hlb:=k9 w5 _ hb2
    have hlv:=k9 w5 _ hs2
    go_wp2_with fail
    refine (HArg.out w5 HBw5.out).mono ?_
    rintro e w6 ⟨hB,he⟩
    have HBw6:=k8 (jg HBw5.out HBw5.out.size hB)
    replace hb2:=jb hB hb2
    replace hb3:=jb hB hb3
    replace hb4:=jb hB hb4
    replace hb5:=jb hB hb5
    replace hs2:=jb hB hs2
    replace hs5:=jb hB hs5
    replace hs6:=jb hB hs6
    have HO6:=k8 (jv HO5.out hB)
    have HNz6:Hid (N0≤w6.heap.size):=wx HNz.out hB.size
    clear hB hlb hlv HBw5 HO5 HNz
    have hlb:=k9 w6 _ hb2
    have hlv:=k9 w6 _ hs2
    cases ha:oargs with
    | none=>
     rw [ha] at he
     subst he
     have HE:Hid (o=none):=by show o=none;rw [HR.out];simp [HF.out,HD.out,ha]
     go_wp2_with fail
     exact ⟨rfl,HBw6.out,by rw [HE.out]⟩
    | some ts=>
     rw [ha] at he
     obtain ⟨va,rfl,hrow⟩:=he
     have HSa:=k8 hrow
     have HA:=k8 ha
     clear hrow ha
     go_wp2_with (at_builtin;refine yj _ rfl _ _ 136 9 _ 16 rfl Tryz.underlying136 jm rfl N0 _ _ _ _ _ _ _ ?fa ?fb HO6.out HSa.out ?fc ?fd ?fe ?ff ?_)
     case fa=>rfl
     case fb=>rfl
     case fc=>exact vl _
     case fd=>exact HNz6.out
     case fe=>have:=HLw.out _ HF.out;have:=HLa.out _ HA.out;simp;omega
     case ff=>decide
     intro v7 w7 ho7 hg7
     have HO7:=k8 (show w7.ownsRow N0 9 1 v7 ((words++[d])++ts).length (((words++[d])++ts).map fun t=>.string (S t)) from by simpa [Nat.add_assoc,Nat.add_comm,Nat.add_left_comm] using ho7)
     have HBw7:=k8 (j6 HBw6.out HO6.out (by omega) (by omega) hg7)
     have HNz7:Hid (N0≤w7.heap.size):=wx HNz6.out hg7.size
     replace hb2:=jo hg7 HO6.out hb2 (by omega)
     replace hb3:=jo hg7 HO6.out hb3 (by omega)
     replace hb4:=jo hg7 HO6.out hb4 (by omega)
     replace hb5:=jo hg7 HO6.out hb5 (by omega)
     replace hs2:=jo hg7 HO6.out hs2 (by omega)
     replace hs5:=jo hg7 HO6.out hs5 (by omega)
     replace hs6:=jo hg7 HO6.out hs6 (by omega)
     clear ho7 hg7 hlb hlv HBw6 HO6 HNz6 HSa
     have hlb:=k9 w7 _ hb2
     have hlv:=k9 w7 _ hs2
     go_wp2_with fail
     refine (HThn.out w7 HBw7.out).mono ?_
     rintro e w8 ⟨hB,he⟩
     have HBw8:=k8 (jg HBw7.out HBw7.out.size hB)
     replace hb2:=jb hB hb2
     replace hb3:=jb hB hb3
     replace hb4:=jb hB hb4
     replace hb5:=jb hB hb5
     replace hs2:=jb hB hs2
     replace hs5:=jb hB hs5
     replace hs6:=jb hB hs6
     have HO8:=k8 (jv HO7.out hB)
     have HNz8:Hid (N0≤w8.heap.size):=wx HNz7.out hB.size
     clear hB hlb hlv HBw7 HO7 HNz7
     have hlb:=k9 w8 _ hb2
     have hlv:=k9 w8 _ hs2
     cases ht:othn with
     | none=>
      rw [ht] at he
      subst he
      have HE:Hid (o=none):=by show o=none;rw [HR.out];simp [HF.out,HD.out,HA.out,ht]
      go_wp2_with fail
      exact ⟨rfl,HBw8.out,by rw [HE.out]⟩
     | some t1=>
      rw [ht] at he
      obtain ⟨vt,rfl,hrow⟩:=he
      have HSt:=k8 hrow
      have HT:=k8 ht
      clear hrow ht
      go_wp2_with (at_builtin;refine yj _ rfl _ _ 136 9 _ 16 rfl Tryz.underlying136 jm rfl N0 _ _ _ _ _ _ _ ?ga ?gb HO8.out HSt.out ?gc ?gd ?ge ?gf ?_)
      case ga=>rfl
      case gb=>rfl
      case gc=>exact vl _
      case gd=>exact HNz8.out
      case ge=>have:=HLw.out _ HF.out;have:=HLa.out _ HA.out;have:=HLt.out _ HT.out;simp;omega
      case gf=>decide
      intro v9 w9 ho9 hg9
      have HO9:=k8 (qc (ts:=(words++[d])++ts++t1) (by simpa [Nat.add_assoc,Nat.add_comm,Nat.add_left_comm] using ho9) (by simp<;>omega))
      have HBw9:=k8 (j6 HBw8.out HO8.out (by omega) (by have:=HNz8.out;omega) hg9)
      clear ho9 hg9
      have HE:Hid (o=some (jw ((words++[d])++ts++t1))):=by show o=_;rw [HR.out];simp [HF.out,HD.out,HA.out,HT.out]
      have HLst:=k8 (vw v9 ((words++[d])++ts++t1) w9 HO9.out (by have:=HLw.out _ HF.out;have:=HLa.out _ HA.out;have:=HLt.out _ HT.out;simp;omega) (HLp.out _ HE.out))
      clear HO9
      generalize jw ((words++[d])++ts++t1)=TX at *
      go_wp2_with fail
      refine HLst.out.mono ?_
      rintro e w10 ⟨rfl,hB⟩
      have HBw10:=k8 (jg HBw9.out HBw9.out.size hB)
      clear hB
      go_wp2_with fail
      go_ret
      exact ⟨HBw10.out,by rw [HE.out];rfl⟩
theorem stmtText_k4 (w:World) (n:Int) (s:ByteArray) (a0 a1 a2:Option Addr) (l0 l1 l2 c0 c1 c2:Nat) (o onum:Option Txt) (ofit oargs othn oels:Option (List Txt)) (nb:Bool) (hnb:(n != 0)=nb)
  (HFit:Hid (∀ w1,Below w.heap.size w w1→Calls Tryz.prog 188 #[.agg #[.string (S [114,101,116]),.bool false,.bool false,.int .i64 1,.int .i64 1,.bool false,.bool false],.string s,.bool nb,.int .i64 l0] w1 (qi w1 ofit)))
  (HArg:Hid (∀ w1,Below w.heap.size w w1→Calls Tryz.prog 189 #[.slice a0 l0 c0,.func (.func 190) #[] #[]] w1 (qi w1 oargs)))
  (HThn:Hid (∀ w1,Below w.heap.size w w1→Calls Tryz.prog 175 #[.slice a1 l1 c1,.func (.func 176) #[] #[]] w1 (qi w1 othn)))
  (HEls:Hid (∀ w1,Below w.heap.size w w1→Calls Tryz.prog 175 #[.slice a2 l2 c2,.func (.func 176) #[] #[]] w1 (qi w1 oels)))
  (HNum:Hid (∀ w1,Below w.heap.size w w1→Calls Tryz.prog 140 #[.int .i64 n] w1 (qe w1 onum)))
  (HR:Hid (o=ofit.bind fun words=>if l1=0∧l2=0 then oargs.bind fun ts=>othn.bind fun t1=>some (jw (words++ts++t1)) else none))
  (HLw:Hid (∀ ws,ofit=some ws→ws.length≤2)) (HLa:Hid (∀ ts,oargs=some ts→ts.length≤100000)) (HLt:Hid (∀ ts,othn=some ts→ts.length≤100000)) (HLe:Hid (∀ ts,oels=some ts→ts.length≤100000))
  (HLp:Hid (∀ t,o=some t→t.length≤100000000)) (HLp1:Hid (∀ t,othn=some t→(jw t).length≤100000000)) (HLp2:Hid (∀ t,oels=some t→(jw t).length≤100000000)) :
  Calls Tryz.prog 176 #[.agg #[.int .i64 4,.string s,.int .i64 n,.slice a0 l0 c0,.slice a1 l1 c1,.slice a2 l2 c2]] w (qe w o):=by
 have hB0:=k8 ((wu w.heap.size w).alloc (wo _) (.cells #[.int .i64 4,.string s,.int .i64 n,.slice a0 l0 c0,.slice a1 l1 c1,.slice a2 l2 c2] 58))
 have HNb:=k8 hnb
 clear hnb
 go_enter Tryz.func176,Tryz.ntmps176
 go_wp2_with fail
 refine (j7 _).mono ?_
 rintro e w1 ⟨rfl,rfl⟩
 go_wp2_with fail
 refine qa zi [mpShapesS,.is (.pointer (some ⟨w.heap.size,0,none⟩)),.is (.int .i64 4),mpShapeS 4,.is (.agg #[.string (S [114,101,116]),.bool false,.bool false,.int .i64 1,.int .i64 1,.bool false,.bool false]),mpVar (w.heap.size+1)] (by kernel_rfl) 6 rfl (by kernel_rfl) _ rfl rfl ?_ ?_
 ·refine ⟨?_,?_,?_,?_,?_,?_,trivial⟩
  ·refine jn (f:=187) rfl rfl fun x y hB hF hD=>⟨#[],?_,?_⟩
   ·simp only [execOp]
    go_simp
   ·refine (sorts_any y).mono ?_
    rintro e w' ⟨rfl,rfl⟩
    refine ⟨(wu _ _).alloc (wo _) _,.inl ⟨_,rfl,y.heap.size,rfl,fun i u hu=>?_⟩⟩
    rw [World.cell?_alloc_new];exact hu
  ·refine jc rfl rfl rfl fun x y hB hF hD=>?_
   have e1:slot x 1=.pointer (some ⟨w.heap.size,0,none⟩):=hF.at 1 rfl
   clear hB hF
   simp only [execOp,ja,e1]
   first|rfl|(go_simp;try rfl)
  ·refine jc rfl rfl rfl fun x y hB hF hD=>?_
   obtain ⟨d0,-⟩:=hD
   have e16:slot x 16=.pointer (some ⟨w.heap.size,0,none⟩):=d0 rfl
   have hc:y.cell? ⟨w.heap.size,0,none⟩=some (.int .i64 4):=(hB.cell (by simp)).trans (by simp)
   clear hB hF
   simp only [execOp,ja,e16]
   first|rfl|(go_simp;try rfl)
  ·refine zq rfl rfl fun x y hB hF hD=>?_
   obtain ⟨d0,d1,-⟩:=hD
   obtain ⟨b,e0,hcs⟩:ShapesAtS (slot x 15) y:=d0 rfl
   have e1:slot x 17=.int .i64 4:=d1 rfl
   refine ⟨.pointer (some ⟨b,4 * 7,none⟩),?_,b,rfl,hcs⟩
   clear hcs hB hF
   simp only [execOp,ja,e0,e1]
   first|rfl|(go_simp;try rfl)
  ·refine jc rfl rfl rfl fun x y hB hF hD=>?_
   obtain ⟨d0,-⟩:=hD
   obtain ⟨b,e0,hcs⟩:ShapeAtS 4 (slot x 18) y:=d0 rfl
   simp only [execOp,ja,e0]
   have h0:y.cell? ⟨b,28,none⟩=some (.string (S [114,101,116])):=hcs 28 _ rfl
   have h1:y.cell? ⟨b,29,none⟩=some (.bool false):=hcs 29 _ rfl
   have h2:y.cell? ⟨b,30,none⟩=some (.bool false):=hcs 30 _ rfl
   have h3:y.cell? ⟨b,31,none⟩=some (.int .i64 1):=hcs 31 _ rfl
   have h4:y.cell? ⟨b,32,none⟩=some (.int .i64 1):=hcs 32 _ rfl
   have h5:y.cell? ⟨b,33,none⟩=some (.bool false):=hcs 33 _ rfl
   have h6:y.cell? ⟨b,34,none⟩=some (.bool false):=hcs 34 _ rfl
   clear hcs hB hF
   first|rfl|(go_simp;try rfl)
  ·refine jr rfl fun x y hB hF hD=>?_
   unfold Oper.wp
   simp only [execOp]
   go_simp
   refine ⟨_,rfl,(wu _ _).alloc (wo _) _,y.heap.size,rfl,?_,?_⟩
   ·have:=hB.size;simp at this;omega
   ·exact heap_alloc_new y _
 ·intro x y hB hF hP
  obtain ⟨p0,p1,p2,p3,p4,p5,-⟩:=hP
  obtain ⟨b,e3,hb,hvar⟩:VarAt (w.heap.size+1) (slot x 3) y:=p5
  have e19:slot x 19=.agg #[.string (S [114,101,116]),.bool false,.bool false,.int .i64 1,.int .i64 1,.bool false,.bool false]:=p4
  have hx:=jj hF [(15,slot x 15),(16,.pointer (some ⟨w.heap.size,0,none⟩)),(17,.int .i64 4),(18,slot x 18),(19,.agg #[.string (S [114,101,116]),.bool false,.bool false,.int .i64 1,.int .i64 1,.bool false,.bool false]),(3,slot x 3)] rfl ⟨rfl,p1,p2,rfl,p4,rfl,trivial⟩
  rw [e3] at hx
  have HB:=k8 (hB0.out.trans (hB.mono (by simp)))
  have HBy:=k8 hB
  generalize slot x 15=v15 at *
  generalize slot x 18=v18 at *
  clear hF p0 p1 p2 p3 p4 e3 e19 hB
  subst hx
  simp only [puts,Act.put]
  have hlt:b<y.heap.size:=(wl.1 hvar).1
  have hv:∀ j,j<7→y.cell? ⟨b,j,none⟩=qy[j]?:=fun j _=>by simp [World.cell?,hvar]
  have hv0:=hv 0 (by omega)
  have hv1:=hv 1 (by omega)
  have hv2:=hv 2 (by omega)
  have hv3:=hv 3 (by omega)
  have hv4:=hv 4 (by omega)
  have hv5:=hv 5 (by omega)
  have hv6:=hv 6 (by omega)
  simp only [qy] at hv0 hv1 hv2 hv3 hv4 hv5 hv6
  have hz:∀ j,y.frozen? ⟨b,j,none⟩=false:=fun j=>by simp [World.frozen?,hvar]
  clear hv
  have HV:=k8 hvar
  clear hvar
  unfold Oper.wp
  simp only [execOp]
  go_simp
  have HSet:=k8 (setRow_heap b [.string (S [114,101,116]),.bool false,.bool false,.int .i64 1,.int .i64 1,.bool false,.bool false] y 0 qy 212 HV.out)
  have HWB:=k8 (qt (B:=w.heap.size) b (by omega) [.string (S [114,101,116]),.bool false,.bool false,.int .i64 1,.int .i64 1,.bool false,.bool false] y 0 HB.out)
  have HWB1:=k8 (qt (B:=w.heap.size+1) b hb [.string (S [114,101,116]),.bool false,.bool false,.int .i64 1,.int .i64 1,.bool false,.bool false] y 0 (HBy.out.mono (by simp)))
  simp only [setRow,Nat.zero_add,Nat.reduceAdd] at HSet HWB HWB1
  generalize (((((((y.setCell ⟨b,0,none⟩ (.string (S [114,101,116]))).setCell ⟨b,1,none⟩ (.bool false)).setCell ⟨b,2,none⟩ (.bool false)).setCell ⟨b,3,none⟩ (.int .i64 1)).setCell ⟨b,4,none⟩ (.int .i64 1)).setCell ⟨b,5,none⟩ (.bool false)).setCell ⟨b,6,none⟩ (.bool false))=W at *
  obtain ⟨ds,hds,hdz,-,hdc,-⟩:=HSet.out
  clear HSet HV hz hv0 hv1 hv2 hv3 hv4 hv5 hv6 HBy
  have hs0:W.cell? ⟨b,0,none⟩=some (.string (S [114,101,116])):=by simpa [World.cell?,hds] using hdc 0 _ rfl (by decide)
  have hs1:W.cell? ⟨b,1,none⟩=some (.bool false):=by simpa [World.cell?,hds] using hdc 1 _ rfl (by decide)
  have hs2:W.cell? ⟨b,2,none⟩=some (.bool false):=by simpa [World.cell?,hds] using hdc 2 _ rfl (by decide)
  have hs3:W.cell? ⟨b,3,none⟩=some (.int .i64 1):=by simpa [World.cell?,hds] using hdc 3 _ rfl (by decide)
  have hs4:W.cell? ⟨b,4,none⟩=some (.int .i64 1):=by simpa [World.cell?,hds] using hdc 4 _ rfl (by decide)
  have hs5:W.cell? ⟨b,5,none⟩=some (.bool false):=by simpa [World.cell?,hds] using hdc 5 _ rfl (by decide)
  have hs6:W.cell? ⟨b,6,none⟩=some (.bool false):=by simpa [World.cell?,hds] using hdc 6 _ rfl (by decide)
  have hb1:W.cell? ⟨w.heap.size,1,none⟩=some (.string s):=(HWB1.out.cell (by simp)).trans (by simp)
  have hb2:W.cell? ⟨w.heap.size,2,none⟩=some (.int .i64 n):=(HWB1.out.cell (by simp)).trans (by simp)
  have hb3:W.cell? ⟨w.heap.size,3,none⟩=some (.slice a0 l0 c0):=(HWB1.out.cell (by simp)).trans (by simp)
  have hb4:W.cell? ⟨w.heap.size,4,none⟩=some (.slice a1 l1 c1):=(HWB1.out.cell (by simp)).trans (by simp)
  have hb5:W.cell? ⟨w.heap.size,5,none⟩=some (.slice a2 l2 c2):=(HWB1.out.cell (by simp)).trans (by simp)
  have HBW:=k8 HWB.out
  clear hds hdz hdc HWB HWB1 HB hlt
  have hlb:w.heap.size<W.heap.size:=k9 W _ hb1
  have hlv:b<W.heap.size:=k9 W _ hs0
  obtain ⟨N0,hN0⟩:∃ n,n=W.heap.size:=⟨_,rfl⟩
  have hN1:w.heap.size<N0:=by omega
  have hN2:b<N0:=by omega
  have HN0:=k8 hN0
  clear hN0
  have hnb:=HNb.out
  go_wp2_with fail
  clear hnb
  refine (HFit.out W HBW.out).mono ?_
  rintro e w3 ⟨hB,he⟩
  have HBw3:=k8 (jg HBW.out HBW.out.size hB)
  replace hb2:=jb hB hb2
  replace hb3:=jb hB hb3
  replace hb4:=jb hB hb4
  replace hb5:=jb hB hb5
  replace hs2:=jb hB hs2
  replace hs5:=jb hB hs5
  replace hs6:=jb hB hs6
  clear hlb hlv hs0 hs1 hs3 hs4 hb1 HBW
  have hz3:=hB.size
  clear hB
  have hlb:=k9 w3 _ hb2
  have hlv:=k9 w3 _ hs2
  cases hf:ofit with
  | none=>
   rw [hf] at he
   subst he
   have HE:Hid (o=none):=by show o=none;rw [HR.out];simp [hf]
   go_wp2_with fail
   exact ⟨rfl,HBw3.out,by rw [HE.out]⟩
  | some words=>
   rw [hf] at he
   obtain ⟨v4,rfl,hrow⟩:=he
   have HO3:=k8 (HN0.out ▸ hrow:w3.ownsRow N0 9 1 v4 words.length (words.map fun t=>.string (S t)))
   have HF:=k8 hf
   have HNz:Hid (N0≤w3.heap.size):=HN0.out ▸ hz3
   clear hrow hf hz3
   by_cases h1:l1=0
   case neg=>
    have t1:((l1:Int) == 0)=false:=by simp;omega
    have HE:Hid (o=none):=by show o=none;rw [HR.out];simp [HF.out,h1]
    go_wp2_with fail
    refine (zc _).mono ?_
    rintro e w4 ⟨rfl,rfl⟩
    go_wp2_with fail
    exact ⟨rfl,HBw3.out,by rw [HE.out]⟩
   subst h1
   by_cases h2:l2=0
   case neg=>
    have t1:((l2:Int) == 0)=false:=by simp;omega
    have HE:Hid (o=none):=by show o=none;rw [HR.out];simp [HF.out,h2]
    go_wp2_with fail
    refine (zc _).mono ?_
    rintro e w4 ⟨rfl,rfl⟩
    go_wp2_with fail
    exact ⟨rfl,HBw3.out,by rw [HE.out]⟩
   subst h2
   go_wp2_with fail
   refine (j7 _).mono ?_
   rintro e w4 ⟨rfl,rfl⟩
   go_wp2_with fail
   refine (HArg.out w3 HBw3.out).mono ?_
   rintro e w6 ⟨hB,he⟩
   have HBw6:=k8 (jg HBw3.out HBw3.out.size hB)
   replace hb2:=jb hB hb2
   replace hb3:=jb hB hb3
   replace hb4:=jb hB hb4
   replace hb5:=jb hB hb5
   replace hs2:=jb hB hs2
   replace hs5:=jb hB hs5
   replace hs6:=jb hB hs6
   have HO6:=k8 (jv HO3.out hB)
   have HNz6:Hid (N0≤w6.heap.size):=wx HNz.out hB.size
   clear hB hlb hlv HBw3 HO3 HNz
   have hlb:=k9 w6 _ hb2
   have hlv:=k9 w6 _ hs2
   cases ha:oargs with
   | none=>
    rw [ha] at he
    subst he
    have HE:Hid (o=none):=by show o=none;rw [HR.out];simp [HF.out,ha]
    go_wp2_with fail
    exact ⟨rfl,HBw6.out,by rw [HE.out]⟩
   | some ts=>
    rw [ha] at he
    obtain ⟨va,rfl,hrow⟩:=he
    have HSa:=k8 hrow
    have HA:=k8 ha
    clear hrow ha
    go_wp2_with (at_builtin;refine yj _ rfl _ _ 136 9 _ 16 rfl Tryz.underlying136 jm rfl N0 _ _ _ _ _ _ _ ?fa ?fb HO6.out HSa.out ?fc ?fd ?fe ?ff ?_)
    case fa=>rfl
    case fb=>rfl
    case fc=>exact vl _
    case fd=>exact HNz6.out
    case fe=>have:=HLw.out _ HF.out;have:=HLa.out _ HA.out;simp;omega
    case ff=>decide
    intro v7 w7 ho7 hg7
    have HO7:=k8 (show w7.ownsRow N0 9 1 v7 (words++ts).length ((words++ts).map fun t=>.string (S t)) from by simpa [Nat.add_assoc,Nat.add_comm,Nat.add_left_comm] using ho7)
    have HBw7:=k8 (j6 HBw6.out HO6.out (by omega) (by omega) hg7)
    have HNz7:Hid (N0≤w7.heap.size):=wx HNz6.out hg7.size
    replace hb2:=jo hg7 HO6.out hb2 (by omega)
    replace hb3:=jo hg7 HO6.out hb3 (by omega)
    replace hb4:=jo hg7 HO6.out hb4 (by omega)
    replace hb5:=jo hg7 HO6.out hb5 (by omega)
    replace hs2:=jo hg7 HO6.out hs2 (by omega)
    replace hs5:=jo hg7 HO6.out hs5 (by omega)
    replace hs6:=jo hg7 HO6.out hs6 (by omega)
    clear ho7 hg7 hlb hlv HBw6 HO6 HNz6 HSa
    have hlb:=k9 w7 _ hb2
    have hlv:=k9 w7 _ hs2
    go_wp2_with fail
    refine (HThn.out w7 HBw7.out).mono ?_
    rintro e w8 ⟨hB,he⟩
    have HBw8:=k8 (jg HBw7.out HBw7.out.size hB)
    replace hb2:=jb hB hb2
    replace hb3:=jb hB hb3
    replace hb4:=jb hB hb4
    replace hb5:=jb hB hb5
    replace hs2:=jb hB hs2
    replace hs5:=jb hB hs5
    replace hs6:=jb hB hs6
    have HO8:=k8 (jv HO7.out hB)
    have HNz8:Hid (N0≤w8.heap.size):=wx HNz7.out hB.size
    clear hB hlb hlv HBw7 HO7 HNz7
    have hlb:=k9 w8 _ hb2
    have hlv:=k9 w8 _ hs2
    cases ht:othn with
    | none=>
     rw [ht] at he
     subst he
     have HE:Hid (o=none):=by show o=none;rw [HR.out];simp [HF.out,HA.out,ht]
     go_wp2_with fail
     exact ⟨rfl,HBw8.out,by rw [HE.out]⟩
    | some t1=>
     rw [ht] at he
     obtain ⟨vt,rfl,hrow⟩:=he
     have HSt:=k8 hrow
     have HT:=k8 ht
     clear hrow ht
     go_wp2_with (at_builtin;refine yj _ rfl _ _ 136 9 _ 16 rfl Tryz.underlying136 jm rfl N0 _ _ _ _ _ _ _ ?ga ?gb HO8.out HSt.out ?gc ?gd ?ge ?gf ?_)
     case ga=>rfl
     case gb=>rfl
     case gc=>exact vl _
     case gd=>exact HNz8.out
     case ge=>have:=HLw.out _ HF.out;have:=HLa.out _ HA.out;have:=HLt.out _ HT.out;simp;omega
     case gf=>decide
     intro v9 w9 ho9 hg9
     have HO9:=k8 (qc (ts:=words++ts++t1) (by simpa [Nat.add_assoc,Nat.add_comm,Nat.add_left_comm] using ho9) (by simp<;>omega))
     have HBw9:=k8 (j6 HBw8.out HO8.out (by omega) (by have:=HNz8.out;omega) hg9)
     clear ho9 hg9
     have HE:Hid (o=some (jw (words++ts++t1))):=by show o=_;rw [HR.out];simp [HF.out,HA.out,HT.out]
     have HLst:=k8 (vw v9 (words++ts++t1) w9 HO9.out (by have:=HLw.out _ HF.out;have:=HLa.out _ HA.out;have:=HLt.out _ HT.out;simp;omega) (HLp.out _ HE.out))
     clear HO9
     generalize jw (words++ts++t1)=TX at *
     go_wp2_with fail
     refine HLst.out.mono ?_
     rintro e w10 ⟨rfl,hB⟩
     have HBw10:=k8 (jg HBw9.out HBw9.out.size hB)
     clear hB
     go_wp2_with fail
     go_ret
     exact ⟨HBw10.out,by rw [HE.out];rfl⟩
end
section
open Go.RowKit
mutual
def Stmt.nums:Stmt→Prop
 | ⟨_,_,_,xs,t,e⟩=>numsEs xs∧numsSs t∧numsSs e
def numsSs:List Stmt→Prop
 | []=>True
 | x::xs=>x.nums∧numsSs xs
end
mutual
theorem j9.nums {w:World}:∀ (x:Stmt) (b o:Nat),j9 w b o x→x.nums
 | ⟨k,s,n,xs,t,e⟩,b,o,h=>by
  rw [j9] at h
  obtain ⟨_,_,_,_,_,⟨v,_,hv⟩,⟨a1,c1,_,_,_,hr1⟩,⟨a2,c2,_,_,_,hr2⟩⟩:=h
  rw [Stmt.nums]
  refine ⟨hv.nums,?_,?_⟩
  ·cases t with
   | nil=>rw [numsSs];trivial
   | cons x xs=>
    obtain ⟨b',o',_,hr'⟩:=hr1 (by simp)
    exact vz.nums (x::xs) b' o' hr'
  ·cases e with
   | nil=>rw [numsSs];trivial
   | cons x xs=>
    obtain ⟨b',o',_,hr'⟩:=hr2 (by simp)
    exact vz.nums (x::xs) b' o' hr'
theorem vz.nums {w:World}:∀ (l:List Stmt) (b o:Nat),vz w b o l→numsSs l
 | [],_,_,_=>by rw [numsSs];trivial
 | x::l,b,o,h=>by
  rw [vz] at h
  rw [numsSs]
  exact ⟨j9.nums x b o h.1,vz.nums l b (o+6) h.2⟩
end
theorem Sl.numsS {w:World} {v:Value} {l:List Stmt} (h:Sl 6 (j9 w) v l):numsSs l:=by
 obtain ⟨a,c,_,_,_,hr⟩:=h
 cases l with
 | nil=>rw [numsSs];trivial
 | cons e l=>
  obtain ⟨b,o,_,hr⟩:=hr (by simp)
  exact vz.nums _ b o ((stmtsAt_row w b _ o).2 hr)
theorem numText_len {n:Int} {t:Txt} (h:zb n=some t):t.length≤20:=by
 unfold zb at h
 split at h
 ·injection h with h
  subst h
  exact dec_len64 _ (by omega)
 ·cases h
theorem stmt_k2 (s:ByteArray) (n:Int) (xs:List Expr) (t e:List Stmt):zk ⟨2,s,n,xs,t,e⟩=(fits (js 2) s.data.toList (n != 0) xs.length).bind fun words=>(ju xs).bind fun ts=>(jy t).bind fun t1=>(jy e).bind fun t2=>some (jw (words++ts++[jw t1,jw t2])):=by
 have hnb:decide (n≠0)=(n != 0):=by rw [Bool.eq_iff_iff];simp
 rw [zk,if_pos (by omega),hnb]
 rfl
theorem stmt_k3 (s:ByteArray) (n:Int) (xs:List Expr) (t e:List Stmt):zk ⟨3,s,n,xs,t,e⟩=(fits (js 3) s.data.toList (n != 0) xs.length).bind fun words=>if e.length=0 then (zb n).bind fun d=>(ju xs).bind fun ts=>(jy t).bind fun t1=>some (jw (words++[d]++ts++t1)) else none:=by
 have hnb:decide (n≠0)=(n != 0):=by rw [Bool.eq_iff_iff];simp
 rw [zk,if_pos (by omega),hnb]
 congr 1
 funext words
 by_cases he:e=[]
 ·subst he
  rw [if_pos ⟨.inl rfl,.inr rfl⟩,if_pos (by rfl)]
  rw [if_pos (by rfl)]
  cases zb n<;>rfl
 ·rw [if_neg (fun h=>by rcases h.2 with h|h;exact absurd h (by decide);exact he h),if_neg (fun h=>he (List.eq_nil_of_length_eq_zero h))]
theorem stmt_kx (k:Int) (hk:k=0∨k=1∨k=4) (s:ByteArray) (n:Int) (xs:List Expr) (t e:List Stmt):zk ⟨k,s,n,xs,t,e⟩=(fits (js k) s.data.toList (n != 0) xs.length).bind fun words=>if t.length=0∧e.length=0 then (ju xs).bind fun ts=>(jy t).bind fun t1=>some (jw (words++ts++t1)) else none:=by
 have hnb:decide (n≠0)=(n != 0):=by rw [Bool.eq_iff_iff];simp
 have h1:(js k).thn=false∧(js k).other=false∧(js k).num=false:=by rcases hk with rfl|rfl|rfl<;>exact ⟨rfl,rfl,rfl⟩
 rw [zk,if_pos (by omega),hnb,h1.1,h1.2.1,h1.2.2]
 congr 1
 funext words
 by_cases he:t=[]∧e=[]
 ·obtain ⟨rfl,rfl⟩:=he
  rfl
 ·rw [if_neg (fun h=>he ⟨by simpa using h.1,by simpa using h.2⟩),if_neg (fun h=>he ⟨List.eq_nil_of_length_eq_zero h.1,List.eq_nil_of_length_eq_zero h.2⟩)]
theorem stmtTexts_count:∀ (l:List Stmt) (ts:List Txt),jy l=some ts→ts.length=l.length
 | [],ts,h=>by rw [jy] at h;injection h with h;subst h;rfl
 | e::l,ts,h=>by
  rw [jy] at h
  cases ht:zk e with
  | none=>rw [ht] at h;cases h
  | some t=>
   rw [ht] at h
   cases hts:jy l with
   | none=>rw [hts] at h;cases h
   | some us=>
    rw [hts] at h
    simp only [Option.bind_some,Option.some.injEq] at h
    subst h
    simp [stmtTexts_count l us hts]
theorem wtSs_len:∀ (l:List Stmt),l.length≤wtSs l
 | []=>by simp [wtSs]
 | e::l=>by
  have:=wtSs_len l
  have h1:1≤e.wt:=by obtain ⟨k,n,s,xs,t,e⟩:=e;rw [Stmt.wt];omega
  simp only [wtSs,List.length_cons];omega
theorem wtSs_mem:∀ (l:List Stmt) (x:Stmt),x∈l→x.wt≤wtSs l
 | [],_,h=>by cases h
 | e::l,x,h=>by
  rcases gh.1 h with rfl|h
  ·simp [wtSs]
  ·have:=wtSs_mem l x h
   simp only [wtSs];omega
theorem stmt_parts (x:Stmt) (t:Txt) (h:zk x=some t):∃ (ws:List Txt) (ts t1 t2:List Txt),ws.length≤3∧(∀ u∈ws,u.length≤30)∧ju x.args=some ts∧jy x.thn=some t1∧(t=jw (ws++ts++t1)∨(jy x.els=some t2∧t=jw (ws++ts++[jw t1,jw t2]))):=by
 obtain ⟨k,s,n,xs,th,el⟩:=x
 have hk:0≤k∧k≤4:=by
  rw [zk] at h
  by_cases hk:0≤k∧k≤4
  ·exact hk
  ·rw [if_neg hk] at h;cases h
 simp only
 have hcases:k=2∨k=3∨(k=0∨k=1∨k=4):=by omega
 rcases hcases with rfl|rfl|hk3
 ·rw [stmt_k2] at h
  cases hf:fits (js 2) s.data.toList (n != 0) xs.length with
  | none=>rw [hf] at h;cases h
  | some words=>
   have hw:=fits_len (stmtWord_len 2) hf
   rw [hf] at h
   cases ha:ju xs with
   | none=>rw [ha] at h;cases h
   | some ts=>
    rw [ha] at h
    cases hb:jy th with
    | none=>rw [hb] at h;cases h
    | some t1=>
     rw [hb] at h
     cases hc:jy el with
     | none=>rw [hc] at h;cases h
     | some t2=>
      rw [hc] at h
      simp only [Option.bind_some,Option.some.injEq] at h
      exact ⟨words,ts,t1,t2,by omega,hw.2,rfl,rfl,.inr ⟨rfl,h.symm⟩⟩
 ·rw [stmt_k3] at h
  cases hf:fits (js 3) s.data.toList (n != 0) xs.length with
  | none=>rw [hf] at h;cases h
  | some words=>
   have hw:=fits_len (stmtWord_len 3) hf
   rw [hf] at h
   simp only [Option.bind_some] at h
   split at h
   case isFalse=>cases h
   cases hd:zb n with
   | none=>rw [hd] at h;cases h
   | some d=>
    have hdl:=numText_len hd
    rw [hd] at h
    cases ha:ju xs with
    | none=>rw [ha] at h;cases h
    | some ts=>
     rw [ha] at h
     cases hb:jy th with
     | none=>rw [hb] at h;cases h
     | some t1=>
      rw [hb] at h
      simp only [Option.bind_some,Option.some.injEq] at h
      refine ⟨words++[d],ts,t1,[],by simp;omega,fun u hu=>?_,rfl,rfl,.inl h.symm⟩
      rcases gi.1 hu with hu|hu
      ·exact hw.2 u hu
      ·simp only [wy] at hu;subst hu;omega
 ·rw [stmt_kx k hk3] at h
  cases hf:fits (js k) s.data.toList (n != 0) xs.length with
  | none=>rw [hf] at h;cases h
  | some words=>
   have hw:=fits_len (stmtWord_len k) hf
   rw [hf] at h
   simp only [Option.bind_some] at h
   split at h
   case isFalse=>cases h
   cases ha:ju xs with
   | none=>rw [ha] at h;cases h
   | some ts=>
    rw [ha] at h
    cases hb:jy th with
    | none=>rw [hb] at h;cases h
    | some t1=>
     rw [hb] at h
     simp only [Option.bind_some,Option.some.injEq] at h
     exact ⟨words,ts,t1,[],by omega,hw.2,rfl,rfl,.inl h.symm⟩
mutual
theorem stmtText_len:∀ (x:Stmt) (t:Txt),x.nums→zk x=some t→t.length+1≤110 * x.wt
 | ⟨k,s,n,xs,th,el⟩,t,hn,h=>by
  rw [Stmt.nums] at hn
  obtain ⟨ws,ts,t1,t2,h1,h2,h3,h4,h5⟩:=stmt_parts _ t h
  simp only at h3 h4 h5
  have h6:=exprTexts_len xs ts hn.1 h3
  have h7:=kq th t1 hn.2.1 h4
  have h8:=tl_le ws h2
  rw [Stmt.wt]
  rcases h5 with rfl|⟨h5,rfl⟩
  ·have h9:=vo (ws++ts++t1)
   rw [xw,xw] at h9
   omega
  ·have h10:=kq el t2 hn.2.2 h5
   have h9:=vo (ws++ts++[jw t1,jw t2])
   have h11:=vo t1
   have h12:=vo t2
   rw [xw,xw] at h9
   simp only [tl] at h9
   omega
theorem kq:∀ (l:List Stmt) (ts:List Txt),numsSs l→jy l=some ts→tl ts≤110 * wtSs l
 | [],ts,_,h=>by
  rw [jy] at h
  injection h with h
  subst h
  simp [tl]
 | e::l,ts,hn,h=>by
  rw [numsSs] at hn
  rw [jy] at h
  rw [wtSs]
  cases ht:zk e with
  | none=>rw [ht] at h;cases h
  | some t=>
   rw [ht] at h
   cases hts:jy l with
   | none=>rw [hts] at h;cases h
   | some us=>
    rw [hts] at h
    simp only [Option.bind_some,Option.some.injEq] at h
    subst h
    have h1:=stmtText_len e t hn.1 ht
    have h2:=kq l us hn.2 hts
    simp only [tl]
    omega
end
theorem stmtText_out (w:World) (k n:Int) (s:ByteArray) (a0 a1 a2:Option Addr) (l0 l1 l2 c0 c1 c2:Nat) (x:Stmt) (hE:zk x=none) (hk:k<0∨4<k) :
  Calls Tryz.prog 176 #[.agg #[.int .i64 k,.string s,.int .i64 n,.slice a0 l0 c0,.slice a1 l1 c1,.slice a2 l2 c2]] w (qe w (zk x)):=by
 have HE:=k8 hE
 clear hE
 rcases hk with hk|hk
 ·go_enter Tryz.func176,Tryz.ntmps176
  go_wp2_with fail
  refine (zc _).mono ?_
  rintro e w1 ⟨rfl,rfl⟩
  go_wp2
  exact ⟨rfl,(wu _ _).alloc (wo _) _,by rw [HE.out]⟩
 ·have hkd:decide (k≤4)=false:=by simp;omega
  have hk0:0≤k:=by omega
  go_enter Tryz.func176,Tryz.ntmps176
  go_wp2_with fail
  refine (zc _).mono ?_
  rintro e w1 ⟨rfl,rfl⟩
  go_wp2
  exact ⟨rfl,(wu _ _).alloc (wo _) _,by rw [HE.out]⟩
theorem stmtOpen (w:World) (b o:Nat) (x:Stmt) (h:j9 w b o x):∃ (n0:Int) (s1:ByteArray) (n2:Int) (a3:Option Addr) (l3 c3:Nat) (a4:Option Addr) (l4 c4:Nat) (a5:Option Addr) (l5 c5:Nat),w.cell? ⟨b,o,none⟩=some (.int .i64 n0)∧w.cell? ⟨b,o+1,none⟩=some (.string s1)∧w.cell? ⟨b,o+2,none⟩=some (.int .i64 n2)∧w.cell? ⟨b,o+3,none⟩=some (.slice a3 l3 c3)∧w.cell? ⟨b,o+4,none⟩=some (.slice a4 l4 c4)∧w.cell? ⟨b,o+5,none⟩=some (.slice a5 l5 c5)∧yn w x (.agg #[.int .i64 n0,.string s1,.int .i64 n2,.slice a3 l3 c3,.slice a4 l4 c4,.slice a5 l5 c5]):=by
 obtain ⟨a0,c0,a1,c1,a2,c2,h0,h1,h2,h3,h4,h5,h6⟩:=h.open
 exact ⟨_,_,_,a0,_,c0,a1,_,c1,a2,_,c2,h0,h1,h2,h3,h4,h5,h6⟩
theorem stmtText_any:∀ (N:Nat) (x:Stmt) (v:Value) (w:World),x.wt≤N→x.wt≤100000→yn w x v→Glob w→Calls Tryz.prog 176 #[v] w (qe w (zk x)):=by
 intro N
 induction N with
 | zero=>
  intro e v w h
  obtain ⟨k,n,s,xs,t,e⟩:=e
  rw [Stmt.wt] at h;omega
 | succ N ih=>
  intro x v w hN hW hI hg
  obtain ⟨k,s,n,xs,t,e⟩:=x
  obtain ⟨a0,c0,a1,c1,a2,c2,rfl,hk,hn,hs,hsl0,hsl1,hsl2⟩:=hI
  simp only at hk hn hs hsl0 hsl1 hsl2
  rw [Stmt.wt] at hN hW
  by_cases hk0:0≤k
  case neg=>exact stmtText_out w k n s a0 a1 a2 _ _ _ c0 c1 c2 _ (by rw [zk,if_neg (by omega)]) (.inl (by omega))
  by_cases hk4:k≤4
  case neg=>exact stmtText_out w k n s a0 a1 a2 _ _ _ c0 c1 c2 _ (by rw [zk,if_neg (by omega)]) (.inr (by omega))
  have hfit:∀ w1,Below w.heap.size w w1→Calls Tryz.prog 188 #[.agg (qv (js k)).toArray,.string s,.bool (n != 0),.int .i64 xs.length] w1 (qi w1 (fits (js k) s.data.toList (n != 0) xs.length)):=
   fun w1 hb=>fits_any (js k) s (n != 0) xs.length w1 hs (hg.below hb)
  have hall:∀ w1,Below w.heap.size w w1→Calls Tryz.prog 189 #[.slice a0 xs.length c0,.func (.func 190) #[] #[]] w1 (qi w1 (ju xs)):=by
   intro w1 hb1
   rw [exprTexts_all]
   refine all_exprs zo zl exprOpen (fun w w' b o x h hb=>zo.below hb x b o h) (.slice a0 xs.length c0) xs 190 zp w1 (fun _ _=>by kernel_rfl) (hsl0.imp (fun b o x _ hx=>zo.below hb1 x b o hx)) (by have:=wtEs_len xs;omega) ?_
   intro w2 w3 j x val hb2 hx hv hb3
   have hm:=wtEs_mem xs x (gg hx)
   exact exprText_any 100000 x val w3 (by omega) (by omega) (hv.below hb3) ((((hg.below hb1).below hb2)).below hb3)
  have hst:∀ (a:Option Addr) (c:Nat) (l:List Stmt),Sl 6 (j9 w) (.slice a l.length c) l→wtSs l≤N→wtSs l≤100000→∀ w1,Below w.heap.size w w1→Calls Tryz.prog 175 #[.slice a l.length c,.func (.func 176) #[] #[]] w1 (qi w1 (jy l)):=by
   intro a c l hsl hl1 hl2 w1 hb1
   rw [xj]
   refine all_stmts j9 yn stmtOpen (fun w w' b o x h hb=>j9.below hb x b o h) (.slice a l.length c) l 176 zk w1 (fun _ _=>by kernel_rfl) (hsl.imp (fun b o x _ hx=>j9.below hb1 x b o hx)) (by have:=wtSs_len l;omega) ?_
   intro w2 w3 j x val hb2 hx hv hb3
   have hm:=wtSs_mem l x (gg hx)
   exact ih x val w3 (by omega) (by omega) (hv.below hb3) ((((hg.below hb1).below hb2)).below hb3)
  have hthn:=hst a1 c1 t hsl1 (by omega) (by omega)
  have hels:=hst a2 c2 e hsl2 (by omega) (by omega)
  have hnum:∀ w1,Below w.heap.size w w1→Calls Tryz.prog 140 #[.int .i64 n] w1 (qe w1 (zb n)):=fun w1 hb=>number_any n w1 (hg.below hb)
  have hlw:∀ ws,fits (js k) s.data.toList (n != 0) xs.length=some ws→ws.length≤2:=fun ws h=>(fits_len (stmtWord_len k) h).1
  have hla:∀ ts,ju xs=some ts→ts.length≤100000:=fun ts h=>by
   have h1:=exprTexts_count xs ts h
   have h2:=wtEs_len xs
   omega
  have hls:∀ (l:List Stmt),wtSs l≤100000→∀ ts,jy l=some ts→ts.length≤100000:=fun l hl ts h=>by
   have h1:=stmtTexts_count l ts h
   have h2:=wtSs_len l
   omega
  have hlt:=hls t (by omega)
  have hle:=hls e (by omega)
  have hlp:∀ u,zk ⟨k,s,n,xs,t,e⟩=some u→u.length≤100000000:=fun u h=>by
   have:=stmtText_len _ u (by rw [Stmt.nums];exact ⟨hsl0.nums,hsl1.numsS,hsl2.numsS⟩) h
   rw [Stmt.wt] at this
   omega
  have hpp:∀ (l:List Stmt),numsSs l→wtSs l≤100000→∀ ts,jy l=some ts→(jw ts).length≤100000000:=fun l hn hl ts h=>by
   have h1:=kq l ts hn h
   have h2:=vo ts
   omega
  have hp1:=hpp t hsl1.numsS (by omega)
  have hp2:=hpp e hsl2.numsS (by omega)
  have hc:k=0∨k=1∨k=2∨k=3∨k=4:=by omega
  rcases hc with rfl|rfl|rfl|rfl|rfl
  ·exact stmtText_k0 w n s a0 a1 a2 _ _ _ c0 c1 c2 _ _ _ _ _ _ _ rfl (k8 hfit) (k8 hall) (k8 hthn) (k8 hels) (k8 hnum) (k8 (stmt_kx 0 (by omega) s n xs t e)) (k8 hlw) (k8 hla) (k8 hlt) (k8 hle) (k8 hlp) (k8 hp1) (k8 hp2)
  ·exact stmtText_k1 w n s a0 a1 a2 _ _ _ c0 c1 c2 _ _ _ _ _ _ _ rfl (k8 hfit) (k8 hall) (k8 hthn) (k8 hels) (k8 hnum) (k8 (stmt_kx 1 (by omega) s n xs t e)) (k8 hlw) (k8 hla) (k8 hlt) (k8 hle) (k8 hlp) (k8 hp1) (k8 hp2)
  ·exact stmtText_k2 w n s a0 a1 a2 _ _ _ c0 c1 c2 _ _ _ _ _ _ _ rfl (k8 hfit) (k8 hall) (k8 hthn) (k8 hels) (k8 hnum) (k8 (stmt_k2 s n xs t e)) (k8 hlw) (k8 hla) (k8 hlt) (k8 hle) (k8 hlp) (k8 hp1) (k8 hp2)
  ·exact stmtText_k3 w n s a0 a1 a2 _ _ _ c0 c1 c2 _ _ _ _ _ _ _ rfl (k8 hfit) (k8 hall) (k8 hthn) (k8 hels) (k8 hnum) (k8 (stmt_k3 s n xs t e)) (k8 hlw) (k8 hla) (k8 hlt) (k8 hle) (k8 hlp) (k8 hp1) (k8 hp2)
  ·exact stmtText_k4 w n s a0 a1 a2 _ _ _ c0 c1 c2 _ _ _ _ _ _ _ rfl (k8 hfit) (k8 hall) (k8 hthn) (k8 hels) (k8 hnum) (k8 (stmt_kx 4 (by omega) s n xs t e)) (k8 hlw) (k8 hla) (k8 hlt) (k8 hle) (k8 hlp) (k8 hp1) (k8 hp2)
end
section
open Go.RowKit
def mpOpt (o:Option Txt):MP:=MP.val fun v=>∃ t,o=some t∧v=.string (S t)
def mpRow' (q:List Txt→Prop) (B:Nat):MP:=⟨fun v w=>∃ ts,q ts∧w.ownsRow B 9 1 v ts.length (ts.map fun t=>.string (S t)),fun v x y ⟨ts,h1,h2⟩ hb=>⟨ts,h1,jv h2 hb⟩⟩
def rowParam (s:ByteArray) (n:Int):MP:=mpRow' (fun ts=>∃ t1 t2,jl s.data.toList=some t1∧zb n=some t2∧ts=[[112,116,114],t1,t2]) 0
def rowFunc (s:ByteArray) (hd:Txt) (op:Option (List Txt)) (B:Nat):MP:=mpRow' (fun ts=>∃ t1 ps,jl s.data.toList=some t1∧op=some ps∧ts=[hd,t1,jw ps]) B
theorem own_three (w:World) (base:Nat) (s t u:ByteArray) (hb:base≤w.heap.size):(w.alloc (.cells #[.string s,.string t,.string u] 9)).ownsRow base 9 1 (.slice (some ⟨w.heap.size,0,none⟩) 3 3) 3 [.string s,.string t,.string u]:=by
 have h:=World.ownsRow_lit (base:=base) (e:=9) (size:=1) w #[.string s,.string t,.string u] 3 hb (by simp [maxLen]) (by simp)
 simpa using h
theorem y8 {s t:Txt} (h:jl s=some t):t.length≤24:=by
 unfold jl at h
 split at h
 ·rename_i hn
  injection h with h
  subst h
  exact nameOk_le hn
 ·cases h
theorem paramText_2 (s:ByteArray) (n:Int) (w:World) (o:Option Txt)
  (HNm:Hid (∀ w1,Below w.heap.size w w1→Calls Tryz.prog 139 #[.string s] w1 (qe w1 (jl s.data.toList)))) (HNu:Hid (∀ w1,Below w.heap.size w w1→Calls Tryz.prog 140 #[.int .i64 n] w1 (qe w1 (zb n))))
  (HN:Hid (jl s.data.toList=none→o=none)) (HD:Hid (zb n=none→o=none)) (HS:Hid (∀ t1 t2,jl s.data.toList=some t1→zb n=some t2→o=some (jw [[112,116,114],t1,t2]))) (HL:Hid (∀ t,o=some t→t.length≤100000000)) :
  Calls Tryz.prog 174 #[.agg #[.string s,.int .i64 2,.int .i64 n]] w (qe w o):=by
 have HB0:=k8 ((wu w.heap.size w).alloc (wo _) (.cells #[.string s,.int .i64 2,.int .i64 n] 56))
 go_enter Tryz.func174,Tryz.ntmps174
 go_wp2_with fail
 refine (j7 _).mono ?_
 rintro e w1 ⟨rfl,rfl⟩
 go_wp2_with fail
 refine je zi [.is (.pointer (some ⟨w.heap.size,0,none⟩)),.is (.string s),mpOpt (jl s.data.toList),.is (.pointer (some ⟨w.heap.size,2,none⟩)),.is (.int .i64 n),mpOpt (zb n),rowParam s n] (by kernel_rfl) 7 (by decide) (by kernel_rfl) _ rfl ?_ ?_
 ·refine ⟨?_,?_,?_,?_,?_,?_,?_,trivial⟩
  ·refine jc rfl rfl rfl fun x y hB hF hD=>?_
   have e1:slot x 1=.pointer (some ⟨w.heap.size,0,none⟩):=hF.at 1 rfl
   clear hB hF
   simp only [execOp,ja,e1]
   first|rfl|(go_simp;try rfl)
  ·refine jc rfl rfl rfl fun x y hB hF hD=>?_
   obtain ⟨d0,-⟩:=hD
   have e28:slot x 28=.pointer (some ⟨w.heap.size,0,none⟩):=d0 rfl
   have hc:y.cell? ⟨w.heap.size,0,none⟩=some (.string s):=(hB.cell (by simp)).trans (by simp)
   clear hB hF
   simp only [execOp,ja,e28]
   first|rfl|(go_simp;try rfl)
  ·refine jn (f:=139) rfl rfl fun x y hB hF hD=>⟨#[.string s],?_,?_⟩
   ·obtain ⟨d0,-⟩:=hD
    have e1:slot x 29=.string s:=d0 rfl
    have g1:=jh e1
    clear hB hF e1
    simp only [execOp]
    simp [go_sem,g1]
   ·refine (HNm.out y (HB0.out.trans (hB.mono (by simp)))).mono ?_
    rintro e w' ⟨hb,he⟩
    cases hn:jl s.data.toList with
    | none=>
     rw [hn] at he
     subst he
     refine ⟨hb,.inr ⟨_,rfl,hF.defers,HB0.out.trans ((hB.trans (hb.mono hB.size)).mono (by simp)),?_⟩⟩
     rw [HN.out hn]
    | some t=>
     rw [hn] at he
     exact ⟨hb,.inl ⟨_,he,t,rfl,rfl⟩⟩
  ·refine jc rfl rfl rfl fun x y hB hF hD=>?_
   have e1:slot x 1=.pointer (some ⟨w.heap.size,0,none⟩):=hF.at 1 rfl
   clear hB hF
   simp only [execOp,ja,e1]
   first|rfl|(go_simp;try rfl)
  ·refine jc rfl rfl rfl fun x y hB hF hD=>?_
   obtain ⟨d0,-⟩:=hD
   have e31:slot x 31=.pointer (some ⟨w.heap.size,2,none⟩):=d0 rfl
   have hc:y.cell? ⟨w.heap.size,2,none⟩=some (.int .i64 n):=(hB.cell (by simp)).trans (by simp)
   clear hB hF
   simp only [execOp,ja,e31]
   first|rfl|(go_simp;try rfl)
  ·refine jn (f:=140) rfl rfl fun x y hB hF hD=>⟨#[.int .i64 n],?_,?_⟩
   ·obtain ⟨d0,-⟩:=hD
    have e1:slot x 32=.int .i64 n:=d0 rfl
    have g1:=jh e1
    clear hB hF e1
    simp only [execOp]
    simp [go_sem,g1]
   ·refine (HNu.out y (HB0.out.trans (hB.mono (by simp)))).mono ?_
    rintro e w' ⟨hb,he⟩
    cases hn:zb n with
    | none=>
     rw [hn] at he
     subst he
     refine ⟨hb,.inr ⟨_,rfl,hF.defers,HB0.out.trans ((hB.trans (hb.mono hB.size)).mono (by simp)),?_⟩⟩
     rw [HD.out hn]
    | some t=>
     rw [hn] at he
     exact ⟨hb,.inl ⟨_,he,t,rfl,rfl⟩⟩
  ·refine jr rfl fun x y hB hF hD=>?_
   obtain ⟨d0,d1,-⟩:=hD
   obtain ⟨t1,ht1,e1⟩:=d0 rfl
   obtain ⟨t2,ht2,e2⟩:=d1 rfl
   have g1:=jh (show slot x 30=.string (S t1) from e1)
   have g2:=jh (show slot x 33=.string (S t2) from e2)
   have hzz:=hB.size
   clear hB hF e1 e2
   unfold Oper.wp
   simp only [execOp]
   simp [go_sem,g1,g2]
   refine ⟨_,rfl,(wu _ _).alloc (wo _) _,?_⟩
   exact (⟨[[112,116,114],t1,t2],⟨t1,t2,ht1,ht2,rfl⟩,own_three y 0 _ _ _ (gj _)⟩:(rowParam s n).p _ _)
 ·intro x y hB hF hP
  obtain ⟨p0,p1,p2,p3,p4,p5,p6,-⟩:=hP
  obtain ⟨t1,ht1,e30⟩:=p2
  obtain ⟨t2,ht2,e33⟩:=p5
  obtain ⟨ts,⟨u1,u2,hu1,hu2,rfl⟩,hrow⟩:=p6
  rw [ht1] at hu1
  rw [ht2] at hu2
  injection hu1 with hu1
  injection hu2 with hu2
  subst hu1
  subst hu2
  have hE:=HS.out t1 t2 ht1 ht2
  have HLst:=k8 (vw (slot x 34) _ y (qc hrow rfl) (by simp) (HL.out _ hE))
  have hx:=jj hF [(28,.pointer (some ⟨w.heap.size,0,none⟩)),(29,.string s),(30,slot x 30),(31,.pointer (some ⟨w.heap.size,2,none⟩)),(32,.int .i64 n),(33,slot x 33),(34,slot x 34)] rfl ⟨p0,p1,rfl,p3,p4,rfl,rfl,trivial⟩
  have HB:=k8 (HB0.out.trans (hB.mono (by simp)))
  have HE:=k8 hE
  generalize slot x 30=v30 at *
  generalize slot x 33=v33 at *
  generalize slot x 34=v34 at *
  clear hB hF p0 p1 p3 p4 e30 e33 hrow ht1 ht2 hE
  subst hx
  generalize jw [[112,116,114],t1,t2]=TX at *
  simp only [puts,Act.put]
  go_wp2_with fail
  refine HLst.out.mono ?_
  rintro e w10 ⟨rfl,hB⟩
  have HB10:=k8 (jg HB.out HB.out.size hB)
  clear hB
  go_wp2_with fail
  go_ret
  exact ⟨HB10.out,by rw [HE.out];rfl⟩
theorem paramText_any (x:z8) (v:Value) (w:World) (hI:ParamIs w x v) (hg:Glob w):Calls Tryz.prog 174 #[v] w (qe w (zg x)):=by
 obtain ⟨s,k,n⟩:=x
 obtain ⟨rfl,hs,-,-⟩:=hI
 simp only at hs
 have HNm:=k8 (fun w1 (hb:Below w.heap.size w w1)=>named_any s w1 hs (hg.below hb))
 by_cases hk2:k=2
 ·subst hk2
  have hE:zg ⟨s,2,n⟩=(jl s.data.toList).bind fun s=>(zb n).map fun d=>jw [[112,116,114],s,d]:=by simp [zg]
  refine paramText_2 s n w _ HNm (k8 (fun w1 hb=>number_any n w1 (hg.below hb))) (k8 fun h=>?_) (k8 fun h=>?_) (k8 fun t1 t2 h1 h2=>?_) (k8 fun t h=>?_)
  ·rw [hE,h];rfl
  ·rw [hE,h];cases jl s.data.toList<;>rfl
  ·rw [hE,h1,h2];rfl
  ·rw [hE] at h
   cases h1:jl s.data.toList with
   | none=>rw [h1] at h;cases h
   | some t1=>
    rw [h1] at h
    cases h2:zb n with
    | none=>rw [h2] at h;cases h
    | some t2=>
     rw [h2] at h
     simp only [Option.map_some,Option.bind_some,Option.some.injEq] at h
     subst h
     have h3:=y8 h1
     have h4:=numText_len h2
     have h5:=vo [[112,116,114],t1,t2]
     simp only [tl,List.length_cons,List.length_nil] at h5
     omega
 have tk2:(k == 2)=false:=by simpa using hk2
 by_cases hn:n=0
 case neg=>
  have tn:(n == 0)=false:=by simpa using hn
  have HE:Hid (zg ⟨s,k,n⟩=none):=by show _=none;simp [zg,hk2,hn]
  clear hg
  go_enter Tryz.func174,Tryz.ntmps174
  go_wp2_with fail
  refine (zc _).mono ?_
  rintro e w1 ⟨rfl,rfl⟩
  go_wp2
  exact ⟨rfl,(wu _ _).alloc (wo _) _,by rw [HE.out]⟩
 subst hn
 by_cases hk0:k=0
 ·subst hk0
  have HE:Hid (zg ⟨s,0,0⟩=jl s.data.toList):=by show _=_;simp [zg]
  clear hg
  go_enter Tryz.func174,Tryz.ntmps174
  go_wp2_with fail
  refine (j7 _).mono ?_
  rintro e w1 ⟨rfl,rfl⟩
  go_wp2_with fail
  refine (HNm.out _ ((wu _ _).alloc (wo _) _)).mono ?_
  rintro e w1 ⟨hB,he⟩
  have HB:=k8 (jg ((wu w.heap.size w).alloc (wo _) _) (by simp) hB)
  clear hB
  cases hn:jl s.data.toList with
  | none=>
   rw [hn] at he
   subst he
   go_wp2
   exact ⟨rfl,HB.out,by rw [HE.out,hn]⟩
  | some t=>
   rw [hn] at he
   subst he
   go_wp2_with fail
   go_ret
   exact ⟨HB.out,by rw [HE.out,hn];rfl⟩
 have tk0:(k == 0)=false:=by simpa using hk0
 by_cases hk1:k=1
 ·subst hk1
  have HE:Hid (zg ⟨s,1,0⟩=(jl s.data.toList).map fun s=>jw [[115,101,99],s]):=by show _=_;simp [zg]
  clear hg
  go_enter Tryz.func174,Tryz.ntmps174
  go_wp2_with fail
  refine (j7 _).mono ?_
  rintro e w1 ⟨rfl,rfl⟩
  go_wp2_with fail
  refine (HNm.out _ ((wu _ _).alloc (wo _) _)).mono ?_
  rintro e w1 ⟨hB,he⟩
  have HB:=k8 (jg ((wu w.heap.size w).alloc (wo _) _) (by simp) hB)
  clear hB
  cases hn:jl s.data.toList with
  | none=>
   rw [hn] at he
   subst he
   go_wp2
   exact ⟨rfl,HB.out,by rw [HE.out,hn];rfl⟩
  | some t=>
   rw [hn] at he
   subst he
   have HL:=k8 (vw _ [[115,101,99],t] _ (qc (own_two w1 0 (S [115,101,99]) (S t) (gj _)) rfl) (by simp) (by have h5:=vo [[115,101,99],t];have:=y8 hn;simp only [tl,List.length_cons,List.length_nil] at h5;omega))
   have HT:Hid (zg ⟨s,1,0⟩=some (jw [[115,101,99],t])):=by show _=_;rw [HE.out,hn];rfl
   have HBz:=k8 HB.out.size
   clear hn
   generalize jw [[115,101,99],t]=TX at *
   go_wp2_with fail
   refine HL.out.mono ?_
   rintro e w10 ⟨rfl,hB⟩
   have HB10:=k8 (jg HB.out HBz.out (jg ((wu _ _).alloc (wo _) _) (by simp) hB))
   clear hB
   go_wp2_with fail
   go_ret
   exact ⟨HB10.out,by rw [HT.out];rfl⟩
 have tk1:(k == 1)=false:=by simpa using hk1
 have HE:Hid (zg ⟨s,k,0⟩=none):=by show _=none;simp [zg,hk0,hk1,hk2]
 clear hg
 go_enter Tryz.func174,Tryz.ntmps174
 go_wp2_with fail
 refine (j7 _).mono ?_
 rintro e w1 ⟨rfl,rfl⟩
 go_wp2
 exact ⟨rfl,(wu _ _).alloc (wo _) _,by rw [HE.out];rfl⟩
theorem funcText_ok (s:ByteArray) (out:Bool) (hd:Txt) (hhd:hd=if out=true then [101,120,112,111,114,116] else [102,117,110]) (a0 a1:Option Addr) (l0 c0 l1 c1:Nat) (w:World) (o:Option Txt) (op os:Option (List Txt)) (hl0:decide ((l0:Int)≤6)=true)
  (HNm:Hid (∀ w1,Below w.heap.size w w1→Calls Tryz.prog 139 #[.string s] w1 (qe w1 (jl s.data.toList))))
  (HPa:Hid (∀ w1,Below w.heap.size w w1→Calls Tryz.prog 173 #[.slice a0 l0 c0,.func (.func 174) #[] #[]] w1 (qi w1 op)))
  (HSt:Hid (∀ w1,Below w.heap.size w w1→Calls Tryz.prog 175 #[.slice a1 l1 c1,.func (.func 176) #[] #[]] w1 (qi w1 os)))
  (HN:Hid (jl s.data.toList=none→o=none)) (HPaN:Hid (op=none→o=none)) (HStN:Hid (os=none→o=none)) (HS:Hid (∀ t1 ps ss,jl s.data.toList=some t1→op=some ps→os=some ss→o=some (jw ([hd,t1,jw ps]++ss)))) (HL:Hid (∀ t,o=some t→t.length≤100000000))
  (HLpa:Hid (∀ ps,op=some ps→ps.length≤100000)) (HLst:Hid (∀ ps,os=some ps→ps.length≤100000)) (HLpp:Hid (∀ ps,op=some ps→(jw ps).length≤100000000)) :
  Calls Tryz.prog 142 #[.agg #[.string s,.bool out,.slice a0 l0 c0,.slice a1 l1 c1]] w (qe w o):=by
 have HB0:=k8 ((wu w.heap.size w).alloc (wo _) (.cells #[.string s,.bool out,.slice a0 l0 c0,.slice a1 l1 c1] 47))
 cases out with
 | true=>
  simp only [if_true] at hhd
  subst hhd
  go_enter Tryz.func142,Tryz.ntmps142
  go_wp2_with fail
  refine (j7 _).mono ?_
  rintro e w1 ⟨rfl,rfl⟩
  go_wp2_with fail
  refine je zi [.is (.string (S [101,120,112,111,114,116])),.is (.pointer (some ⟨w.heap.size,0,none⟩)),.is (.string s),mpOpt (jl s.data.toList),.is (.pointer (some ⟨w.heap.size,2,none⟩)),.is (.slice a0 l0 c0),mpRow' (fun ts=>op=some ts) 0,MP.val fun v=>∃ ps,op=some ps∧v=.string (S (jw ps)),rowFunc s [101,120,112,111,114,116] op w.heap.size,.is (.pointer (some ⟨w.heap.size,3,none⟩)),.is (.slice a1 l1 c1),mpRow' (fun ts=>os=some ts) 0] (by kernel_rfl) 12 (by decide) (by kernel_rfl) _ rfl ?_ ?_
  ·refine ⟨?_,?_,?_,?_,?_,?_,?_,?_,?_,?_,?_,?_,trivial⟩
   ·refine jc rfl rfl rfl fun x y hB hF hD=>?_
    have e3:slot x 3=.string (S [101,120,112,111,114,116]):=hF.at 3 rfl
    clear hB hF
    simp only [execOp,ja,e3]
    first|rfl|(go_simp;try rfl)
   ·refine jc rfl rfl rfl fun x y hB hF hD=>?_
    have e1:slot x 1=.pointer (some ⟨w.heap.size,0,none⟩):=hF.at 1 rfl
    clear hB hF
    simp only [execOp,ja,e1]
    first|rfl|(go_simp;try rfl)
   ·refine jc rfl rfl rfl fun x y hB hF hD=>?_
    obtain ⟨d0,-⟩:=hD
    have e12:slot x 12=.pointer (some ⟨w.heap.size,0,none⟩):=d0 rfl
    have hc:y.cell? ⟨w.heap.size,0,none⟩=some (.string s):=(hB.cell (by simp)).trans (by simp)
    clear hB hF
    simp only [execOp,ja,e12]
    first|rfl|(go_simp;try rfl)
   ·refine jn (f:=139) rfl rfl fun x y hB hF hD=>⟨#[.string s],?_,?_⟩
    ·obtain ⟨d0,-⟩:=hD
     have e1:slot x 13=.string s:=d0 rfl
     have g1:=jh e1
     clear hB hF e1
     simp only [execOp]
     simp [go_sem,g1]
    ·refine (HNm.out y (HB0.out.trans (hB.mono (by simp)))).mono ?_
     rintro e w' ⟨hb,he⟩
     cases hn:jl s.data.toList with
     | none=>
      rw [hn] at he
      subst he
      refine ⟨hb,.inr ⟨_,rfl,hF.defers,HB0.out.trans ((hB.trans (hb.mono hB.size)).mono (by simp)),?_⟩⟩
      rw [HN.out hn]
     | some t=>
      rw [hn] at he
      exact ⟨hb,.inl ⟨_,he,t,rfl,rfl⟩⟩
   ·refine jc rfl rfl rfl fun x y hB hF hD=>?_
    have e1:slot x 1=.pointer (some ⟨w.heap.size,0,none⟩):=hF.at 1 rfl
    clear hB hF
    simp only [execOp,ja,e1]
    first|rfl|(go_simp;try rfl)
   ·refine jc rfl rfl rfl fun x y hB hF hD=>?_
    obtain ⟨d0,-⟩:=hD
    have e15:slot x 15=.pointer (some ⟨w.heap.size,2,none⟩):=d0 rfl
    have hc:y.cell? ⟨w.heap.size,2,none⟩=some (.slice a0 l0 c0):=(hB.cell (by simp)).trans (by simp)
    clear hB hF
    simp only [execOp,ja,e15]
    first|rfl|(go_simp;try rfl)
   ·refine jn (f:=173) rfl rfl fun x y hB hF hD=>⟨#[.slice a0 l0 c0,.func (.func 174) #[] #[]],?_,?_⟩
    ·obtain ⟨d0,-⟩:=hD
     have e1:slot x 16=.slice a0 l0 c0:=d0 rfl
     have g1:=jh e1
     clear hB hF e1
     simp only [execOp]
     simp [go_sem,g1]
    ·refine (HPa.out y (HB0.out.trans (hB.mono (by simp)))).mono ?_
     rintro e w' ⟨hb,he⟩
     cases hn:op with
     | none=>
      rw [hn] at he
      subst he
      refine ⟨hb,.inr ⟨_,rfl,hF.defers,HB0.out.trans ((hB.trans (hb.mono hB.size)).mono (by simp)),?_⟩⟩
      rw [HPaN.out hn]
     | some t=>
      rw [hn] at he
      obtain ⟨v,rfl,hrow⟩:=he
      exact ⟨hb,.inl ⟨_,rfl,t,rfl,yk hrow (gj _)⟩⟩
   ·refine jn (f:=138) rfl rfl fun x y hB hF hD=>⟨#[slot x 17],?_,?_⟩
    ·have g1:=jh (show slot x 17=slot x 17 from rfl)
     clear hB hF hD
     simp only [execOp]
     simp [go_sem,g1]
    ·obtain ⟨d0,-⟩:=hD
     obtain ⟨ps,hps,hrow⟩:=d0 rfl
     refine (vw (slot x 17) ps y (qc hrow rfl) (by have:=HLpa.out _ hps;omega) (HLpp.out _ hps)).mono ?_
     rintro e w' ⟨rfl,hb⟩
     exact ⟨hb,.inl ⟨_,rfl,ps,hps,rfl⟩⟩
   ·refine jr rfl fun x y hB hF hD=>?_
    obtain ⟨d0,d1,d2,-⟩:=hD
    have e0:slot x 11=.string (S [101,120,112,111,114,116]):=d0 rfl
    obtain ⟨t1,ht1,e1⟩:=d1 rfl
    obtain ⟨ps,hps,e2⟩:=d2 rfl
    have g0:=jh e0
    have g1:=jh (show slot x 14=.string (S t1) from e1)
    have g2:=jh (show slot x 18=.string (S (jw ps)) from e2)
    have hzz:=hB.size
    clear hB hF e0 e1 e2
    unfold Oper.wp
    simp only [execOp]
    simp [go_sem,g0,g1,g2]
    refine ⟨_,rfl,(wu _ _).alloc (wo _) _,?_⟩
    exact (⟨[[101,120,112,111,114,116],t1,jw ps],⟨t1,ps,ht1,hps,rfl⟩,own_three y w.heap.size _ _ _ (by simp at hzz;omega)⟩:(rowFunc s [101,120,112,111,114,116] op w.heap.size).p _ _)
   ·refine jc rfl rfl rfl fun x y hB hF hD=>?_
    have e1:slot x 1=.pointer (some ⟨w.heap.size,0,none⟩):=hF.at 1 rfl
    clear hB hF
    simp only [execOp,ja,e1]
    first|rfl|(go_simp;try rfl)
   ·refine jc rfl rfl rfl fun x y hB hF hD=>?_
    obtain ⟨d0,-⟩:=hD
    have e20:slot x 20=.pointer (some ⟨w.heap.size,3,none⟩):=d0 rfl
    have hc:y.cell? ⟨w.heap.size,3,none⟩=some (.slice a1 l1 c1):=(hB.cell (by simp)).trans (by simp)
    clear hB hF
    simp only [execOp,ja,e20]
    first|rfl|(go_simp;try rfl)
   ·refine jn (f:=175) rfl rfl fun x y hB hF hD=>⟨#[.slice a1 l1 c1,.func (.func 176) #[] #[]],?_,?_⟩
    ·obtain ⟨d0,-⟩:=hD
     have e1:slot x 21=.slice a1 l1 c1:=d0 rfl
     have g1:=jh e1
     clear hB hF e1
     simp only [execOp]
     simp [go_sem,g1]
    ·refine (HSt.out y (HB0.out.trans (hB.mono (by simp)))).mono ?_
     rintro e w' ⟨hb,he⟩
     cases hn:os with
     | none=>
      rw [hn] at he
      subst he
      refine ⟨hb,.inr ⟨_,rfl,hF.defers,HB0.out.trans ((hB.trans (hb.mono hB.size)).mono (by simp)),?_⟩⟩
      rw [HStN.out hn]
     | some t=>
      rw [hn] at he
      obtain ⟨v,rfl,hrow⟩:=he
      exact ⟨hb,.inl ⟨_,rfl,t,rfl,yk hrow (gj _)⟩⟩
  ·intro x y hB hF hP
   obtain ⟨p0,p1,p2,p3,p4,p5,p6,p7,p8,p9,p10,p11,-⟩:=hP
   obtain ⟨t1,ht1,e14⟩:=p3
   obtain ⟨ps,hps,-⟩:=p6
   obtain ⟨ps',hps',e18⟩:=p7
   obtain ⟨ss,hss,hrow2⟩:=p11
   obtain ⟨ts,⟨u1,u2,hu1,hu2,rfl⟩,hrow⟩:=p8
   rw [ht1] at hu1
   rw [hps] at hu2 hps'
   injection hu1 with hu1
   injection hu2 with hu2
   injection hps' with hps'
   subst hu1
   subst hu2
   subst hps'
   have HE:=k8 (HS.out t1 ps ss ht1 hps hss)
   have HR1:=k8 (show y.ownsRow w.heap.size 9 1 (slot x 19) 3 ([[101,120,112,111,114,116],t1,jw ps].map fun t=>.string (S t)) from hrow)
   have HR2:=k8 (show y.ownsRow 0 9 1 (slot x 22) ss.length (ss.map fun t=>.string (S t)) from hrow2)
   have hx:=jj hF [(11,.string (S [101,120,112,111,114,116])),(12,.pointer (some ⟨w.heap.size,0,none⟩)),(13,.string s),(14,slot x 14),(15,.pointer (some ⟨w.heap.size,2,none⟩)),(16,.slice a0 l0 c0),(17,slot x 17),(18,slot x 18),(19,slot x 19),(20,.pointer (some ⟨w.heap.size,3,none⟩)),(21,.slice a1 l1 c1),(22,slot x 22)] rfl ⟨p0,p1,p2,rfl,p4,p5,rfl,rfl,rfl,p9,p10,rfl,trivial⟩
   have HB:=k8 (HB0.out.trans (hB.mono (by simp)))
   have HNs:=k8 (HLst.out _ hss)
   generalize slot x 14=v14 at *
   generalize slot x 17=v17 at *
   generalize slot x 18=v18 at *
   generalize slot x 19=v19 at *
   generalize slot x 22=v22 at *
   clear hB hF p0 p1 p2 p4 p5 p9 p10 e14 e18 hrow hrow2 ht1 hps hss
   subst hx
   simp only [puts,Act.put,we,wg,wi,wj,wk]
   go_wp2_with (at_builtin;go_loud (refine yj _ rfl _ _ 136 9 _ 16 rfl Tryz.underlying136 jm rfl w.heap.size _ _ _ _ _ _ _ ?fa ?fb HR1.out HR2.out ?fc ?fd ?fe ?ff ?_))
   case fa=>rfl
   case fb=>rfl
   case fc=>exact vl _
   case fd=>exact HB.out.size
   case fe=>have:=HNs.out;simp;omega
   case ff=>decide
   intro v7 w7 ho7 hg7
   have HLt:=k8 (vw v7 ([[101,120,112,111,114,116],t1,jw ps]++ss) w7 (qc (by simpa using ho7) (by simp<;>omega)) (by have:=HNs.out;simp;omega) (HL.out _ HE.out))
   have HB7:=k8 (j6 HB.out HR1.out (wo _) HB.out.size hg7)
   clear ho7 hg7
   generalize jw ([[101,120,112,111,114,116],t1,jw ps]++ss)=TX at *
   go_wp2_with fail
   refine HLt.out.mono ?_
   rintro e w10 ⟨rfl,hB⟩
   have HB10:=k8 (jg HB7.out HB7.out.size hB)
   clear hB
   go_wp2_with fail
   go_ret
   exact ⟨HB10.out,by rw [HE.out];rfl⟩
 | false=>
  simp only [if_neg Bool.false_ne_true] at hhd
  subst hhd
  go_enter Tryz.func142,Tryz.ntmps142
  go_wp2_with fail
  refine (j7 _).mono ?_
  rintro e w1 ⟨rfl,rfl⟩
  go_wp2_with fail
  refine je zi [.is (.string (S [102,117,110])),.is (.pointer (some ⟨w.heap.size,0,none⟩)),.is (.string s),mpOpt (jl s.data.toList),.is (.pointer (some ⟨w.heap.size,2,none⟩)),.is (.slice a0 l0 c0),mpRow' (fun ts=>op=some ts) 0,MP.val fun v=>∃ ps,op=some ps∧v=.string (S (jw ps)),rowFunc s [102,117,110] op w.heap.size,.is (.pointer (some ⟨w.heap.size,3,none⟩)),.is (.slice a1 l1 c1),mpRow' (fun ts=>os=some ts) 0] (by kernel_rfl) 12 (by decide) (by kernel_rfl) _ rfl ?_ ?_
  ·refine ⟨?_,?_,?_,?_,?_,?_,?_,?_,?_,?_,?_,?_,trivial⟩
   ·refine jc rfl rfl rfl fun x y hB hF hD=>?_
    have e3:slot x 3=.string (S [102,117,110]):=hF.at 3 rfl
    clear hB hF
    simp only [execOp,ja,e3]
    first|rfl|(go_simp;try rfl)
   ·refine jc rfl rfl rfl fun x y hB hF hD=>?_
    have e1:slot x 1=.pointer (some ⟨w.heap.size,0,none⟩):=hF.at 1 rfl
    clear hB hF
    simp only [execOp,ja,e1]
    first|rfl|(go_simp;try rfl)
   ·refine jc rfl rfl rfl fun x y hB hF hD=>?_
    obtain ⟨d0,-⟩:=hD
    have e12:slot x 12=.pointer (some ⟨w.heap.size,0,none⟩):=d0 rfl
    have hc:y.cell? ⟨w.heap.size,0,none⟩=some (.string s):=(hB.cell (by simp)).trans (by simp)
    clear hB hF
    simp only [execOp,ja,e12]
    first|rfl|(go_simp;try rfl)
   ·refine jn (f:=139) rfl rfl fun x y hB hF hD=>⟨#[.string s],?_,?_⟩
    ·obtain ⟨d0,-⟩:=hD
     have e1:slot x 13=.string s:=d0 rfl
     have g1:=jh e1
     clear hB hF e1
     simp only [execOp]
     simp [go_sem,g1]
    ·refine (HNm.out y (HB0.out.trans (hB.mono (by simp)))).mono ?_
     rintro e w' ⟨hb,he⟩
     cases hn:jl s.data.toList with
     | none=>
      rw [hn] at he
      subst he
      refine ⟨hb,.inr ⟨_,rfl,hF.defers,HB0.out.trans ((hB.trans (hb.mono hB.size)).mono (by simp)),?_⟩⟩
      rw [HN.out hn]
     | some t=>
      rw [hn] at he
      exact ⟨hb,.inl ⟨_,he,t,rfl,rfl⟩⟩
   ·refine jc rfl rfl rfl fun x y hB hF hD=>?_
    have e1:slot x 1=.pointer (some ⟨w.heap.size,0,none⟩):=hF.at 1 rfl
    clear hB hF
    simp only [execOp,ja,e1]
    first|rfl|(go_simp;try rfl)
   ·refine jc rfl rfl rfl fun x y hB hF hD=>?_
    obtain ⟨d0,-⟩:=hD
    have e15:slot x 15=.pointer (some ⟨w.heap.size,2,none⟩):=d0 rfl
    have hc:y.cell? ⟨w.heap.size,2,none⟩=some (.slice a0 l0 c0):=(hB.cell (by simp)).trans (by simp)
    clear hB hF
    simp only [execOp,ja,e15]
    first|rfl|(go_simp;try rfl)
   ·refine jn (f:=173) rfl rfl fun x y hB hF hD=>⟨#[.slice a0 l0 c0,.func (.func 174) #[] #[]],?_,?_⟩
    ·obtain ⟨d0,-⟩:=hD
     have e1:slot x 16=.slice a0 l0 c0:=d0 rfl
     have g1:=jh e1
     clear hB hF e1
     simp only [execOp]
     simp [go_sem,g1]
    ·refine (HPa.out y (HB0.out.trans (hB.mono (by simp)))).mono ?_
     rintro e w' ⟨hb,he⟩
     cases hn:op with
     | none=>
      rw [hn] at he
      subst he
      refine ⟨hb,.inr ⟨_,rfl,hF.defers,HB0.out.trans ((hB.trans (hb.mono hB.size)).mono (by simp)),?_⟩⟩
      rw [HPaN.out hn]
     | some t=>
      rw [hn] at he
      obtain ⟨v,rfl,hrow⟩:=he
      exact ⟨hb,.inl ⟨_,rfl,t,rfl,yk hrow (gj _)⟩⟩
   ·refine jn (f:=138) rfl rfl fun x y hB hF hD=>⟨#[slot x 17],?_,?_⟩
    ·have g1:=jh (show slot x 17=slot x 17 from rfl)
     clear hB hF hD
     simp only [execOp]
     simp [go_sem,g1]
    ·obtain ⟨d0,-⟩:=hD
     obtain ⟨ps,hps,hrow⟩:=d0 rfl
     refine (vw (slot x 17) ps y (qc hrow rfl) (by have:=HLpa.out _ hps;omega) (HLpp.out _ hps)).mono ?_
     rintro e w' ⟨rfl,hb⟩
     exact ⟨hb,.inl ⟨_,rfl,ps,hps,rfl⟩⟩
   ·refine jr rfl fun x y hB hF hD=>?_
    obtain ⟨d0,d1,d2,-⟩:=hD
    have e0:slot x 11=.string (S [102,117,110]):=d0 rfl
    obtain ⟨t1,ht1,e1⟩:=d1 rfl
    obtain ⟨ps,hps,e2⟩:=d2 rfl
    have g0:=jh e0
    have g1:=jh (show slot x 14=.string (S t1) from e1)
    have g2:=jh (show slot x 18=.string (S (jw ps)) from e2)
    have hzz:=hB.size
    clear hB hF e0 e1 e2
    unfold Oper.wp
    simp only [execOp]
    simp [go_sem,g0,g1,g2]
    refine ⟨_,rfl,(wu _ _).alloc (wo _) _,?_⟩
    exact (⟨[[102,117,110],t1,jw ps],⟨t1,ps,ht1,hps,rfl⟩,own_three y w.heap.size _ _ _ (by simp at hzz;omega)⟩:(rowFunc s [102,117,110] op w.heap.size).p _ _)
   ·refine jc rfl rfl rfl fun x y hB hF hD=>?_
    have e1:slot x 1=.pointer (some ⟨w.heap.size,0,none⟩):=hF.at 1 rfl
    clear hB hF
    simp only [execOp,ja,e1]
    first|rfl|(go_simp;try rfl)
   ·refine jc rfl rfl rfl fun x y hB hF hD=>?_
    obtain ⟨d0,-⟩:=hD
    have e20:slot x 20=.pointer (some ⟨w.heap.size,3,none⟩):=d0 rfl
    have hc:y.cell? ⟨w.heap.size,3,none⟩=some (.slice a1 l1 c1):=(hB.cell (by simp)).trans (by simp)
    clear hB hF
    simp only [execOp,ja,e20]
    first|rfl|(go_simp;try rfl)
   ·refine jn (f:=175) rfl rfl fun x y hB hF hD=>⟨#[.slice a1 l1 c1,.func (.func 176) #[] #[]],?_,?_⟩
    ·obtain ⟨d0,-⟩:=hD
     have e1:slot x 21=.slice a1 l1 c1:=d0 rfl
     have g1:=jh e1
     clear hB hF e1
     simp only [execOp]
     simp [go_sem,g1]
    ·refine (HSt.out y (HB0.out.trans (hB.mono (by simp)))).mono ?_
     rintro e w' ⟨hb,he⟩
     cases hn:os with
     | none=>
      rw [hn] at he
      subst he
      refine ⟨hb,.inr ⟨_,rfl,hF.defers,HB0.out.trans ((hB.trans (hb.mono hB.size)).mono (by simp)),?_⟩⟩
      rw [HStN.out hn]
     | some t=>
      rw [hn] at he
      obtain ⟨v,rfl,hrow⟩:=he
      exact ⟨hb,.inl ⟨_,rfl,t,rfl,yk hrow (gj _)⟩⟩
  ·intro x y hB hF hP
   obtain ⟨p0,p1,p2,p3,p4,p5,p6,p7,p8,p9,p10,p11,-⟩:=hP
   obtain ⟨t1,ht1,e14⟩:=p3
   obtain ⟨ps,hps,-⟩:=p6
   obtain ⟨ps',hps',e18⟩:=p7
   obtain ⟨ss,hss,hrow2⟩:=p11
   obtain ⟨ts,⟨u1,u2,hu1,hu2,rfl⟩,hrow⟩:=p8
   rw [ht1] at hu1
   rw [hps] at hu2 hps'
   injection hu1 with hu1
   injection hu2 with hu2
   injection hps' with hps'
   subst hu1
   subst hu2
   subst hps'
   have HE:=k8 (HS.out t1 ps ss ht1 hps hss)
   have HR1:=k8 (show y.ownsRow w.heap.size 9 1 (slot x 19) 3 ([[102,117,110],t1,jw ps].map fun t=>.string (S t)) from hrow)
   have HR2:=k8 (show y.ownsRow 0 9 1 (slot x 22) ss.length (ss.map fun t=>.string (S t)) from hrow2)
   have hx:=jj hF [(11,.string (S [102,117,110])),(12,.pointer (some ⟨w.heap.size,0,none⟩)),(13,.string s),(14,slot x 14),(15,.pointer (some ⟨w.heap.size,2,none⟩)),(16,.slice a0 l0 c0),(17,slot x 17),(18,slot x 18),(19,slot x 19),(20,.pointer (some ⟨w.heap.size,3,none⟩)),(21,.slice a1 l1 c1),(22,slot x 22)] rfl ⟨p0,p1,p2,rfl,p4,p5,rfl,rfl,rfl,p9,p10,rfl,trivial⟩
   have HB:=k8 (HB0.out.trans (hB.mono (by simp)))
   have HNs:=k8 (HLst.out _ hss)
   generalize slot x 14=v14 at *
   generalize slot x 17=v17 at *
   generalize slot x 18=v18 at *
   generalize slot x 19=v19 at *
   generalize slot x 22=v22 at *
   clear hB hF p0 p1 p2 p4 p5 p9 p10 e14 e18 hrow hrow2 ht1 hps hss
   subst hx
   simp only [puts,Act.put,we,wg,wi,wj,wk]
   go_wp2_with (at_builtin;go_loud (refine yj _ rfl _ _ 136 9 _ 16 rfl Tryz.underlying136 jm rfl w.heap.size _ _ _ _ _ _ _ ?fa ?fb HR1.out HR2.out ?fc ?fd ?fe ?ff ?_))
   case fa=>rfl
   case fb=>rfl
   case fc=>exact vl _
   case fd=>exact HB.out.size
   case fe=>have:=HNs.out;simp;omega
   case ff=>decide
   intro v7 w7 ho7 hg7
   have HLt:=k8 (vw v7 ([[102,117,110],t1,jw ps]++ss) w7 (qc (by simpa using ho7) (by simp<;>omega)) (by have:=HNs.out;simp;omega) (HL.out _ HE.out))
   have HB7:=k8 (j6 HB.out HR1.out (wo _) HB.out.size hg7)
   clear ho7 hg7
   generalize jw ([[102,117,110],t1,jw ps]++ss)=TX at *
   go_wp2_with fail
   refine HLt.out.mono ?_
   rintro e w10 ⟨rfl,hB⟩
   have HB10:=k8 (jg HB7.out HB7.out.size hB)
   clear hB
   go_wp2_with fail
   go_ret
   exact ⟨HB10.out,by rw [HE.out];rfl⟩
theorem paramTexts_len:∀ (l:List z8) (ts:List Txt),jx zg l=some ts→ts.length=l.length∧tl ts≤60 * l.length
 | [],ts,h=>by rw [jx] at h;injection h with h;subst h;simp [tl]
 | x::l,ts,h=>by
  rw [jx] at h
  cases ht:zg x with
  | none=>rw [ht] at h;cases h
  | some t=>
   rw [ht] at h
   cases hts:jx zg l with
   | none=>rw [hts] at h;cases h
   | some us=>
    rw [hts] at h
    simp only [Option.bind_some,Option.some.injEq] at h
    subst h
    obtain ⟨h1,h2⟩:=paramTexts_len l us hts
    have h3:t.length+1≤60:=by
     unfold zg at ht
     split at ht
     case isFalse=>cases ht
     split at ht
     ·have:=y8 ht;omega
     split at ht
     ·cases hn:jl x.name.data.toList with
      | none=>rw [hn] at ht;cases ht
      | some u=>
       rw [hn] at ht
       simp only [Option.map_some,Option.some.injEq] at ht
       subst ht
       have:=y8 hn
       have h5:=vo [[115,101,99],u]
       simp only [tl,List.length_cons,List.length_nil] at h5
       omega
     split at ht
     case isFalse=>cases ht
     cases h1:jl x.name.data.toList with
     | none=>rw [h1] at ht;cases ht
     | some t1=>
      rw [h1] at ht
      cases h2:zb x.len with
      | none=>rw [h2] at ht;cases ht
      | some t2=>
       rw [h2] at ht
       simp only [Option.map_some,Option.bind_some,Option.some.injEq] at ht
       subst ht
       have h3:=y8 h1
       have h4:=numText_len h2
       have h5:=vo [[112,116,114],t1,t2]
       simp only [tl,List.length_cons,List.length_nil] at h5
       omega
    simp only [tl,List.length_cons]
    omega
theorem paramOpen (w:World) (b o:Nat) (x:z8) (h:yr w b o x):∃ (s0:ByteArray) (n1:Int) (n2:Int),w.cell? ⟨b,o,none⟩=some (.string s0)∧w.cell? ⟨b,o+1,none⟩=some (.int .i64 n1)∧w.cell? ⟨b,o+2,none⟩=some (.int .i64 n2)∧ParamIs w x (.agg #[.string s0,.int .i64 n1,.int .i64 n2]):=
 ⟨_,_,_,h.1.1,h.2.1,h.2.2.1,rfl,h.1.2,h.2.2.2.1,h.2.2.2.2⟩
theorem funText_len (x:Fun) (t:Txt) (hn:numsSs x.body) (h:xf x=some t):t.length+1≤110 * wtSs x.body+500:=by
 unfold xf at h
 split at h
 case isFalse=>cases h
 rename_i h6
 cases h1:jl x.name.data.toList with
 | none=>rw [h1] at h;cases h
 | some t1=>
  rw [h1] at h
  cases h2:jx zg x.params with
  | none=>rw [h2] at h;cases h
  | some ps=>
   rw [h2] at h
   cases h3:jx zk x.body with
   | none=>rw [h3] at h;cases h
   | some ss=>
    rw [h3] at h
    simp only [Option.bind_some,Option.some.injEq] at h
    subst h
    have h4:=y8 h1
    have h5:=paramTexts_len _ _ h2
    rw [← xj] at h3
    have h7:=kq _ _ hn h3
    have h8:=vo ps
    have h9:=vo ([if x.out=true then [101,120,112,111,114,116] else [102,117,110],t1,jw ps]++ss)
    have h10:(if x.out=true then ([101,120,112,111,114,116]:Txt) else [102,117,110]).length≤6:=by split<;>decide
    rw [xw] at h9
    simp only [tl] at h9
    omega
theorem funcText_any (x:Fun) (v:Value) (w:World) (hI:FunIs w x v) (hW:wtSs x.body≤100000) (hg:Glob w):Calls Tryz.prog 142 #[v] w (qe w (xf x)):=by
 obtain ⟨s,out,ps,body⟩:=x
 obtain ⟨a0,c0,a1,c1,rfl,hs,hp,hb⟩:=hI
 simp only at hs hp hb hW
 have hns:=hb.numsS
 by_cases h6:ps.length≤6
 case neg=>
  have t6:decide ((ps.length:Int)≤6)=false:=by simp;omega
  have HE:Hid (xf ⟨s,out,ps,body⟩=none):=by show _=none;unfold xf;rw [if_neg h6]
  clear hg hp hb hns
  go_enter Tryz.func142,Tryz.ntmps142
  go_wp2_with fail
  refine (zc _).mono ?_
  rintro e w1 ⟨rfl,rfl⟩
  go_wp2
  exact ⟨rfl,(wu _ _).alloc (wo _) _,by rw [HE.out]⟩
 have hE:xf ⟨s,out,ps,body⟩=(jl s.data.toList).bind fun t1=>(jx zg ps).bind fun qs=>(jx zk body).bind fun b=>some (jw ([if out=true then [101,120,112,111,114,116] else [102,117,110],t1,jw qs]++b)):=by
  unfold xf
  rw [if_pos h6]
 refine funcText_ok s out _ rfl a0 a1 ps.length c0 body.length c1 w _ (jx zg ps) (jx zk body) (by simp;omega) (k8 fun w1 hb1=>named_any s w1 hs (hg.below hb1)) (k8 fun w1 hb1=>?_) (k8 fun w1 hb1=>?_) (k8 fun h=>?_) (k8 fun h=>?_) (k8 fun h=>?_) (k8 fun t1 qs ss h1 h2 h3=>?_) (k8 fun t h=>?_) (k8 fun qs h=>?_) (k8 fun qs h=>?_) (k8 fun qs h=>?_)
 ·refine all_params yr ParamIs paramOpen (fun w w' b o x h hb=>yr.below hb x b o h) (.slice a0 ps.length c0) ps 174 zg w1 (fun _ _=>by kernel_rfl) (hp.imp (fun b o x _ hx=>yr.below hb1 x b o hx)) (by omega) ?_
  intro w2 w3 j x val hb2 hx hv hb3
  exact paramText_any x val w3 hv (((hg.below hb1).below hb2).below hb3)
 ·refine all_stmts j9 yn stmtOpen (fun w w' b o x h hb=>j9.below hb x b o h) (.slice a1 body.length c1) body 176 zk w1 (fun _ _=>by kernel_rfl) (hb.imp (fun b o x _ hx=>j9.below hb1 x b o hx)) (by have:=wtSs_len body;omega) ?_
  intro w2 w3 j x val hb2 hx hv hb3
  have hm:=wtSs_mem body x (gg hx)
  exact stmtText_any 100000 x val w3 (by omega) (by omega) (hv.below hb3) ((((hg.below hb1).below hb2)).below hb3)
 ·rw [hE,h];rfl
 ·rw [hE,h];cases jl s.data.toList<;>rfl
 ·rw [hE,h];cases jl s.data.toList<;>cases jx zg ps<;>rfl
 ·rw [hE,h1,h2,h3];rfl
 ·have:=funText_len _ t hns h
  simp only at this
  omega
 ·have:=(paramTexts_len ps qs h).1
  omega
 ·rw [← xj] at h
  have h1:=stmtTexts_count body qs h
  have h2:=wtSs_len body
  omega
 ·have h1:=paramTexts_len ps qs h
  have h2:=vo qs
  omega
end
section
open Go.RowKit
def xi (t:Txt):Prop:=∀ c∈t,c.toNat<128
theorem encode_small (c:UInt8) (h:c.toNat<128):Utf8.encode (c.toNat:Int)=⟨#[c]⟩:=by
 have hv:Utf8.valid (c.toNat:Int)=true:=by
  unfold Utf8.valid
  generalize c.toNat=n at h
  have h1:(0:Int)≤n:=by omega
  have h2:(n:Int)<128:=by omega
  simp only [Bool.and_eq_true,Bool.or_eq_true,decide_eq_true_eq,Bool.not_eq_true',Bool.and_eq_false_iff,decide_eq_false_iff_not]
  omega
 unfold Utf8.encode
 simp only [hv,if_true,Int.toNat_natCast]
 rw [if_pos (by omega),UInt8.ofNat_toNat]
theorem encode_is (c d:UInt8) (h:c.toNat<128):((Utf8.encode (c.toNat:Int)).toList == [d])=(c == d):=by
 rw [encode_small c h,show (⟨#[c]⟩:ByteArray)=⟨[c].toArray⟩ from rfl,ByteArray.toList_mk,Bool.eq_iff_iff]
 simp
theorem data_len (s:ByteArray):s.data.toList.length=s.size:=by rw [Array.length_toList];rfl
def deepAt (s:Txt) (k:Nat):Int×Int:=(s.take k).foldl deepStep (0,0)
theorem deepAt_succ (s:Txt) (k:Nat) (h:k<s.length):deepAt s (k+1)=deepStep (deepAt s k) s[k]:=by
 unfold deepAt
 rw [List.take_succ_eq_append_getElem h,List.foldl_append]
 rfl
theorem deepAt_bound (s:Txt):∀ k,k≤s.length→-(k:Int)≤(deepAt s k).2∧(deepAt s k).2≤k∧0≤(deepAt s k).1∧(deepAt s k).1≤k
 | 0,_=>by simp [deepAt]
 | k+1,h=>by
  have ih:=deepAt_bound s k (by omega)
  rw [deepAt_succ s k (by omega)]
  unfold deepStep
  generalize deepAt s k=st at ih ⊢
  obtain ⟨a,b⟩:=st
  simp only at ih ⊢
  split<;>(try split)<;>omega
theorem deep_any (s:ByteArray) (w:World) (hs:s.size≤1000000000) (hA:xi s.data.toList) :
  Calls Tryz.prog 144 #[.string s] w (Ret w (.int .i64 (deep s.data.toList))):=by
 have HA:=k8 hA
 clear hA
 go_enter Tryz.func144,Tryz.ntmps144
 go_wp2
 go_loopw [3,4] (fun m n w'=>∃ (pos:Nat),pos≤s.size∧w'=w.iter s pos∧m=.int .i64 (deepAt s.data.toList pos).1∧n=.int .i64 (deepAt s.data.toList pos).2) (fun _ _ w'=>s.size - w'.iterPos w.heap.size)
 case atStart=>exact ⟨0,gj _,rfl,rfl,rfl⟩
 case round=>
  obtain ⟨pos,hle,rfl,rfl,rfl⟩:=hrel
  have hb:=deepAt_bound s.data.toList pos (by rw [data_len];exact hle)
  by_cases hp:pos<s.size
  ·have hpl:pos<s.data.toList.length:=by rw [data_len];exact hp
   have hc:(s[pos]'hp).toNat<128:=HA.out _ (by
    have:s[pos]'hp=s.data.toList[pos]'hpl:=by simp;rfl
    rw [this];exact List.getElem_mem _)
   have hstep:=deepAt_succ s.data.toList pos hpl
   have hcc:s.data.toList[pos]'hpl=s[pos]'hp:=by simp;rfl
   rw [hcc] at hstep
   have hnx:∀ ty,(Instr.next (.pointer (some ⟨w.heap.size,0,none⟩)) true ty).run Tryz.prog (w.iter s pos)=_:=fun ty=>run_next_ascii w s pos ty hp hc
   have t1:=encode_is (s[pos]'hp) 40 hc
   have t2:=encode_is (s[pos]'hp) 41 hc
   clear hnx
   have hnx:∀ ty,(Instr.next (.pointer (some ⟨w.heap.size,0,none⟩)) true ty).run Tryz.prog (w.iter s pos)=.ok (.tuple #[.bool true,.int .i64 pos,.int .i32 (s[pos]'hp).toNat]) (w.iter s (pos+1)):=fun ty=>run_next_ascii w s pos ty hp hc
   generalize s[pos]'hp=c at *
   clear hcc
   generalize deepAt s.data.toList pos=st at *
   obtain ⟨m,n⟩:=st
   simp only at hb
   have HS:=k8 hstep
   clear hstep
   by_cases h40:c=40
   ·rw [show (c == 40)=true by simpa using h40] at t1
    have H40:=k8 h40
    clear h40 t2
    go_wp2
    go_roundw
    case rel=>
     refine ⟨pos+1,hp,rfl,?_,?_⟩<;>rw [HS.out]<;>simp only [deepStep,if_pos H40.out]
     all_goals go_num
    case measure=>simp;omega
   ·rw [show (c == 40)=false by simpa using h40] at t1
    by_cases h41:c=41
    ·rw [show (c == 41)=true by simpa using h41] at t2
     have H41:=k8 h41
     have H40:=k8 h40
     clear h41 h40
     go_wp2
     go_roundw
     case rel=>
      refine ⟨pos+1,hp,rfl,?_,?_⟩<;>rw [HS.out]<;>simp only [deepStep,if_neg H40.out,if_pos H41.out]
      all_goals go_num
     case measure=>simp;omega
    ·rw [show (c == 41)=false by simpa using h41] at t2
     have H41:=k8 h41
     have H40:=k8 h40
     clear h41 h40
     go_wp2
     go_roundw
     case rel=>
      refine ⟨pos+1,hp,rfl,?_,?_⟩<;>rw [HS.out]<;>simp only [deepStep,if_neg H40.out,if_neg H41.out]
     case measure=>simp;omega
  ·have hnx:∀ ty,(Instr.next (.pointer (some ⟨w.heap.size,0,none⟩)) true ty).run Tryz.prog (w.iter s pos)=_:=fun ty=>run_next_end w s pos ty hp
   have hd:(deepAt s.data.toList pos).1=deep s.data.toList:=by
    unfold deepAt deep
    rw [ww (by rw [data_len];omega)]
   clear hb
   rw [hd]
   clear hd
   generalize deep s.data.toList=D at *
   go_wp2
   go_ret
   exact ⟨rfl,(wu _ _).alloc (wo _) _⟩
end
section
theorem ascii_append {a b:Txt} (ha:xi a) (hb:xi b):xi (a++b):=fun c hc=>by
 rcases gi.1 hc with h|h
 ·exact ha c h
 ·exact hb c h
theorem ascii_cons {a:UInt8} {b:Txt} (ha:a.toNat<128) (hb:xi b):xi (a::b):=fun c hc=>by
 rcases gh.1 hc with rfl|h
 ·exact ha
 ·exact hb c h
theorem kx:xi []:=fun c hc=>by cases hc
def asciis (ts:List Txt):Prop:=∀ t∈ts,xi t
theorem qx:asciis []:=fun c hc=>by cases hc
theorem ze {a:Txt} {b:List Txt} (ha:xi a) (hb:asciis b):asciis (a::b):=fun c hc=>by
 rcases gh.1 hc with rfl|h
 ·exact ha
 ·exact hb c h
theorem qr {a b:List Txt} (ha:asciis a) (hb:asciis b):asciis (a++b):=fun c hc=>by
 rcases gi.1 hc with h|h
 ·exact ha c h
 ·exact hb c h
theorem ascii_join (sep:UInt8) (hs:sep.toNat<128):∀ (ts:List Txt),asciis ts→xi (Lib.join ts [sep])
 | [],_=>by simpa [Lib.join,List.intercalate] using kx
 | [t],h=>by simpa [Lib.join,List.intercalate] using h t (by simp)
 | t::u::ts,h=>by
  have ih:=ascii_join sep hs (u::ts) (fun x hx=>h x (by simp [hx]))
  have e:Lib.join (t::u::ts) [sep]=t++[sep]++Lib.join (u::ts) [sep]:=by simp [Lib.join,List.intercalate,List.intersperse]
  rw [e]
  exact ascii_append (ascii_append (h t (by simp)) (ascii_cons hs kx)) ih
theorem vy {ts:List Txt} (h:asciis ts):xi (jw ts):=ascii_cons (by decide) (ascii_append (ascii_join 32 (by decide) ts h) (ascii_cons (by decide) kx))
theorem ascii_name {s:Txt} (h:nameOk s=true):xi s:=by
 simp only [nameOk,Bool.and_eq_true,List.all_eq_true] at h
 intro c hc
 have:=h.2 c hc
 simp only [xd,digit,Bool.or_eq_true,Bool.and_eq_true,decide_eq_true_eq,beq_iff_eq,UInt8.le_iff_toNat_le] at this
 rcases this with (h|h)|h
 ·have:=h.2
  simp at this;omega
 ·subst h;decide
 ·have:=h.2
  simp at this;omega
theorem ascii_dec:∀ (n:Nat),xi (Lib.decDigits n):=by
 intro n
 induction n using Nat.strongRecOn with
 | _ n ih=>
  rw [Lib.decDigits]
  split
  ·rename_i h
   refine ascii_cons ?_ kx
   simp [UInt8.toNat_ofNat']
   omega
  ·rename_i h
   refine ascii_append (ih _ (by omega)) (ascii_cons ?_ kx)
   simp [UInt8.toNat_ofNat']
   omega
theorem ascii_num {n:Int} {t:Txt} (h:zb n=some t):xi t:=by
 unfold zb at h
 split at h
 ·injection h with h;subst h;exact ascii_dec _
 ·cases h
theorem x7 {s t:Txt} (h:jl s=some t):xi t:=by
 unfold jl at h
 split at h
 ·rename_i hn
  injection h with h
  subst h
  exact ascii_name hn
 ·cases h
theorem ascii_fits {sh:Shape} (hw:xi sh.word) {s:Txt} {b:Bool} {n:Int} {ws:List Txt} (h:fits sh s b n=some ws):asciis ws:=by
 have hw':asciis (if sh.word=[] then [] else [sh.word]):=by
  split
  ·exact qx
  ·exact ze hw qx
 unfold fits at h
 split at h
 ·split at h
  ·split at h
   ·rename_i hn
    injection h with h
    subst h
    exact qr hw' (ze (ascii_name hn) qx)
   ·cases h
  ·injection h with h
   subst h
   exact hw'
 ·cases h
theorem ascii_word (k:Int):xi (jk k).word:=by
 unfold jk
 generalize k.toNat=i
 rcases Nat.lt_or_ge i 7 with h|h
 ·match i,h with
  | 0,_|1,_|2,_|3,_|4,_|5,_|6,_=>unfold xi;decide
 ·rw [List.getD_eq_getElem?_getD,List.getElem?_eq_none (by simpa [exprShapes] using h)]
  exact kx
theorem ascii_stmtWord (k:Int):xi (js k).word:=by
 unfold js
 generalize k.toNat=i
 rcases Nat.lt_or_ge i 5 with h|h
 ·match i,h with
  | 0,_|1,_|2,_|3,_|4,_=>unfold xi;decide
 ·rw [List.getD_eq_getElem?_getD,List.getElem?_eq_none (by simpa [stmtShapes] using h)]
  exact kx
theorem ascii_op {n:Int} {t:Txt} (h:xz n=some t):xi t:=by
 rcases opWord_find n with ⟨_,h2⟩|⟨k,x,hk,_,h2⟩
 ·rw [h2] at h;cases h
 ·rw [h2] at h
  injection h with h
  subst h
  have:∀ x∈opsL,∀ c∈x.1,c.toNat<128:=by decide
  exact this x (gg hk)
mutual
theorem ascii_expr:∀ (e:Expr) (t:Txt),zp e=some t→xi t
 | ⟨k,n,s,xs⟩,t,h=>by
  rw [zp] at h
  split at h
  case isFalse=>cases h
  cases hf:fits (jk k) s.data.toList (decide (n≠0)) xs.length with
  | none=>rw [hf] at h;cases h
  | some words=>
   rw [hf] at h
   simp only [Option.bind_some] at h
   have hw:=ascii_fits (ascii_word k) hf
   have key:∀ ws:List Txt,asciis ws→((ju xs).bind fun ts=>some (jw (ws++ts)))=some t→xi t:=by
    intro ws h1 h3
    cases hts:ju xs with
    | none=>rw [hts] at h3;cases h3
    | some ts=>
     rw [hts] at h3
     simp only [Option.bind_some,Option.some.injEq] at h3
     subst h3
     exact vy (qr h1 (asciis_expr xs ts hts))
   split at h
   ·injection h with h;subst h;exact ascii_dec _
   ·split at h
    ·injection h with h
     subst h
     cases words with
     | nil=>exact kx
     | cons u us=>exact hw u (by simp)
    ·split at h
     ·cases ho:xz n with
      | none=>rw [ho] at h;cases h
      | some o=>
       rw [ho] at h
       exact key [o] (ze (ascii_op ho) qx) h
     ·exact key words hw h
theorem asciis_expr:∀ (l:List Expr) (ts:List Txt),ju l=some ts→asciis ts
 | [],ts,h=>by rw [ju] at h;injection h with h;subst h;exact qx
 | e::l,ts,h=>by
  rw [ju] at h
  cases ht:zp e with
  | none=>rw [ht] at h;cases h
  | some t=>
   rw [ht] at h
   cases hts:ju l with
   | none=>rw [hts] at h;cases h
   | some us=>
    rw [hts] at h
    simp only [Option.bind_some,Option.some.injEq] at h
    subst h
    exact ze (ascii_expr e t ht) (asciis_expr l us hts)
end
theorem stmt_parts2 (x:Stmt) (t:Txt) (h:zk x=some t):∃ (ws:List Txt) (ts t1 t2:List Txt),asciis ws∧ju x.args=some ts∧jy x.thn=some t1∧(t=jw (ws++ts++t1)∨(jy x.els=some t2∧t=jw (ws++ts++[jw t1,jw t2]))):=by
 obtain ⟨k,s,n,xs,th,el⟩:=x
 rw [zk] at h
 split at h
 case isFalse=>cases h
 cases hf:fits (js k) s.data.toList (decide (n≠0)) xs.length with
 | none=>rw [hf] at h;cases h
 | some words=>
  rw [hf] at h
  simp only [Option.bind_some] at h
  have hw:=ascii_fits (ascii_stmtWord k) hf
  split at h
  case isFalse=>cases h
  cases hd:(if (js k).num=true then (zb n).map (fun d=>words++[d]) else some words) with
  | none=>rw [hd] at h;cases h
  | some ws=>
   have hws:asciis ws:=by
    split at hd
    ·cases hn:zb n with
     | none=>rw [hn] at hd;cases hd
     | some d=>
      rw [hn] at hd
      simp only [Option.map_some,Option.some.injEq] at hd
      subst hd
      exact qr hw (ze (ascii_num hn) qx)
    ·injection hd with hd;subst hd;exact hw
   rw [hd] at h
   simp only [Option.bind_some] at h
   cases ha:ju xs with
   | none=>rw [ha] at h;cases h
   | some ts=>
    rw [ha] at h
    simp only [Option.bind_some] at h
    cases hb:jy th with
    | none=>rw [hb] at h;cases h
    | some t1=>
     rw [hb] at h
     simp only [Option.bind_some] at h
     split at h
     ·cases hc:jy el with
      | none=>rw [hc] at h;cases h
      | some t2=>
       rw [hc] at h
       simp only [Option.bind_some,Option.some.injEq] at h
       exact ⟨ws,ts,t1,t2,hws,rfl,rfl,.inr ⟨rfl,h.symm⟩⟩
     ·injection h with h
      exact ⟨ws,ts,t1,[],hws,rfl,rfl,.inl h.symm⟩
mutual
theorem ascii_stmt:∀ (x:Stmt) (t:Txt),zk x=some t→xi t
 | ⟨k,s,n,xs,th,el⟩,t,h=>by
  obtain ⟨ws,ts,t1,t2,h1,h2,h3,h4⟩:=stmt_parts2 _ t h
  simp only at h2 h3 h4
  have h5:=asciis_expr xs ts h2
  have h6:=asciis_stmt th t1 h3
  rcases h4 with rfl|⟨h4,rfl⟩
  ·exact vy (qr (qr h1 h5) h6)
  ·exact vy (qr (qr h1 h5) (ze (vy h6) (ze (vy (asciis_stmt el t2 h4)) qx)))
theorem asciis_stmt:∀ (l:List Stmt) (ts:List Txt),jy l=some ts→asciis ts
 | [],ts,h=>by rw [jy] at h;injection h with h;subst h;exact qx
 | e::l,ts,h=>by
  rw [jy] at h
  cases ht:zk e with
  | none=>rw [ht] at h;cases h
  | some t=>
   rw [ht] at h
   cases hts:jy l with
   | none=>rw [hts] at h;cases h
   | some us=>
    rw [hts] at h
    simp only [Option.bind_some,Option.some.injEq] at h
    subst h
    exact ze (ascii_stmt e t ht) (asciis_stmt l us hts)
end
theorem asciis_all {α:Type} (f:α→Option Txt):∀ (l:List α) (ts:List Txt),(∀ x t,x∈l→f x=some t→xi t)→jx f l=some ts→asciis ts
 | [],ts,_,h=>by rw [jx] at h;injection h with h;subst h;exact qx
 | e::l,ts,hf,h=>by
  rw [jx] at h
  cases ht:f e with
  | none=>rw [ht] at h;cases h
  | some t=>
   rw [ht] at h
   cases hts:jx f l with
   | none=>rw [hts] at h;cases h
   | some us=>
    rw [hts] at h
    simp only [Option.bind_some,Option.some.injEq] at h
    subst h
    exact ze (hf e t (by simp) ht) (asciis_all f l us (fun x t hx=>hf x t (by simp [hx])) hts)
theorem ascii_param (x:z8) (t:Txt) (h:zg x=some t):xi t:=by
 unfold zg at h
 split at h
 case isFalse=>cases h
 split at h
 ·exact x7 h
 split at h
 ·cases hn:jl x.name.data.toList with
  | none=>rw [hn] at h;cases h
  | some u=>
   rw [hn] at h
   simp only [Option.map_some,Option.some.injEq] at h
   subst h
   exact vy (ze (by unfold xi;decide) (ze (x7 hn) qx))
 split at h
 case isFalse=>cases h
 cases h1:jl x.name.data.toList with
 | none=>rw [h1] at h;cases h
 | some t1=>
  rw [h1] at h
  cases h2:zb x.len with
  | none=>rw [h2] at h;cases h
  | some t2=>
   rw [h2] at h
   simp only [Option.map_some,Option.bind_some,Option.some.injEq] at h
   subst h
   exact vy (ze (by unfold xi;decide) (ze (x7 h1) (ze (ascii_num h2) qx)))
theorem ascii_arr (x:Arr) (t:Txt) (h:ky x=some t):xi t:=by
 unfold ky at h
 cases h1:jl x.name.data.toList with
 | none=>rw [h1] at h;cases h
 | some t1=>
  rw [h1] at h
  cases h2:zb x.len with
  | none=>rw [h2] at h;cases h
  | some t2=>
   rw [h2] at h
   simp only [Option.map_some,Option.bind_some,Option.some.injEq] at h
   subst h
   exact vy (ze (by unfold xi;decide) (ze (x7 h1) (ze (ascii_num h2) qx)))
theorem ascii_fun (x:Fun) (t:Txt) (h:xf x=some t):xi t:=by
 unfold xf at h
 split at h
 case isFalse=>cases h
 cases h1:jl x.name.data.toList with
 | none=>rw [h1] at h;cases h
 | some t1=>
  rw [h1] at h
  cases h2:jx zg x.params with
  | none=>rw [h2] at h;cases h
  | some ps=>
   rw [h2] at h
   cases h3:jx zk x.body with
   | none=>rw [h3] at h;cases h
   | some ss=>
    rw [h3] at h
    simp only [Option.bind_some,Option.some.injEq] at h
    subst h
    have h4:xi (if x.out=true then [101,120,112,111,114,116] else [102,117,110]):=by split<;>(unfold xi;decide)
    rw [← xj] at h3
    exact vy (qr (ze h4 (ze (x7 h1) (ze (vy (asciis_all _ _ _ (fun x t _=>ascii_param x t) h2)) qx))) (asciis_stmt _ _ h3))
def wtFs:List Fun→Nat
 | []=>0
 | f::l=>wtSs f.body+wtFs l
theorem wtFs_mem:∀ (l:List Fun) (x:Fun),x∈l→wtSs x.body≤wtFs l
 | [],_,h=>by cases h
 | e::l,x,h=>by
  rcases gh.1 h with rfl|h
  ·simp [wtFs]
  ·have:=wtFs_mem l x h
   simp only [wtFs];omega
theorem arr_len (x:Arr) (t:Txt) (h:ky x=some t):t.length+1≤100:=by
 unfold ky at h
 cases h1:jl x.name.data.toList with
 | none=>rw [h1] at h;cases h
 | some t1=>
  rw [h1] at h
  cases h2:zb x.len with
  | none=>rw [h2] at h;cases h
  | some t2=>
   rw [h2] at h
   simp only [Option.map_some,Option.bind_some,Option.some.injEq] at h
   subst h
   have h3:=y8 h1
   have h4:=numText_len h2
   have h5:=vo [[115,101,99,114,101,116],t1,t2]
   simp only [tl,List.length_cons,List.length_nil] at h5
   omega
theorem arrs_len:∀ (l:List Arr) (ts:List Txt),jx ky l=some ts→ts.length=l.length∧tl ts≤100 * l.length
 | [],ts,h=>by rw [jx] at h;injection h with h;subst h;simp [tl]
 | x::l,ts,h=>by
  rw [jx] at h
  cases ht:ky x with
  | none=>rw [ht] at h;cases h
  | some t=>
   rw [ht] at h
   cases hts:jx ky l with
   | none=>rw [hts] at h;cases h
   | some us=>
    rw [hts] at h
    simp only [Option.bind_some,Option.some.injEq] at h
    subst h
    obtain ⟨h1,h2⟩:=arrs_len l us hts
    have h3:=arr_len x t ht
    simp only [tl,List.length_cons]
    omega
theorem funs_len:∀ (l:List Fun) (ts:List Txt),(∀ x∈l,numsSs x.body)→jx xf l=some ts→ts.length=l.length∧tl ts≤500 * l.length+110 * wtFs l
 | [],ts,_,h=>by rw [jx] at h;injection h with h;subst h;simp [tl]
 | x::l,ts,hn,h=>by
  rw [jx] at h
  cases ht:xf x with
  | none=>rw [ht] at h;cases h
  | some t=>
   rw [ht] at h
   cases hts:jx xf l with
   | none=>rw [hts] at h;cases h
   | some us=>
    rw [hts] at h
    simp only [Option.bind_some,Option.some.injEq] at h
    subst h
    obtain ⟨h1,h2⟩:=funs_len l us (fun x hx=>hn x (by simp [hx])) hts
    have h3:=funText_len x t (hn x (by simp)) ht
    simp only [tl,List.length_cons,wtFs]
    omega
end
end Go.Proofs.YtdembmaldllmkaaGreatDoor
