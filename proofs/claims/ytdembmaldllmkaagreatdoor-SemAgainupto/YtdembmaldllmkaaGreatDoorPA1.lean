/-
  Part of the proofs of laws over the given program: contracts of its functions (what each computes, of which input), and the tables and data that they read.
  Conditions: none beyond the theorems' own hypotheses.
-/
import Derived.Shelf.Strings.Builder1
import Derived.Shelf.Strings.Builder2
import Derived.Shelf.Strings.OnBuilder
import Derived.Shelf.Small.Utf8
import Derived.Shelf.Strings.BuilderF
import Derived.Shelf.Strings.BuilderK
import Derived.Shelf.Strings.Builder2Cap
import Derived.Shelf.Strconv.Itoa0
import Derived.Shelf.Strconv.Itoa1
import Derived.Shelf.LaysM
import Derived.Shelf.Strconv.Itoa2
import Derived.Shelf.Strings.Search1
import Derived.Shelf.Strings.Search2
import Derived.Shelf.Strings.Search3
import Derived.Shelf.Strings.Shaped
import Derived.Shelf.Bits.Mul64
import Derived.Shelf.Unicode.DecodeSlow
import Derived.Shelf.Unicode.DecodeAny
import Derived.Shelf.Unicode.DecodeLast
import Derived.Shelf.Strings.BuilderCap
import Derived.Shelf.Slices.Turned
import Derived.Ground.Names2Prog
import Derived.Shelf.Slices.Clone
import Derived.Test.YtdembmaldllmkaaGreatDoorProg
import Derived.Below
import Derived.RowKit
import Derived.Laws.NewBlocks
import Derived.Lib.Join
import Derived.Lib.ItoaNum
import Derived.Orders
import Derived.WalkKit
import Derived.WalkLawsBesides
import Derived.WalkSpells
import Derived.Tactics
import Derived.Tactics2
import Derived.Defers
import Derived.Recover
import Derived.Laws.Pointers
import Derived.Handy
import Derived.Lib.Hide
import Derived.Lib.AppendIntMem
import Derived.OwnWalk
import Derived.Laws.AppendOwn
import Derived.Laws.OwnMore
import Derived.Deep.AppendLies
import Derived.Laws.AppendOwnNone
import Derived.Laws.RangeString
import Derived.Laws.RangeAny
import Derived.Lib.TrimU
import Derived.LoopTactic
set_option linter.unusedVariables false
set_option linter.unusedSimpArgs false
set_option maxHeartbeats 32000000
set_option maxRecDepth 100000
namespace Go.Proofs.YtdembmaldllmkaaGreatDoor
abbrev k8 := @Lib.hid
abbrev k9 := @World.block_lt_of_cell?
abbrev we := @List.drop_succ_cons
abbrev wg := @List.drop_zero
abbrev wi := @List.setIfInBounds_toArray
abbrev wj := @List.set_cons_succ
abbrev wk := @List.set_cons_zero
abbrev wl := @Array.getElem?_eq_some_iff
abbrev wm := @Array.getElem?_eq_getElem
abbrev wn := @Array.getD_eq_getD_getElem?
abbrev wo := @Nat.le_refl
abbrev wu := @Go.RowKit.Below.refl
abbrev ww := @List.take_of_length_le
abbrev wx := @Nat.le_trans
abbrev wy := @List.mem_singleton
abbrev gg := @List.mem_of_getElem?
abbrev gh := @List.mem_cons
abbrev gi := @List.mem_append
abbrev gj := @Nat.zero_le
end Go.Proofs.YtdembmaldllmkaaGreatDoor
section
namespace Go.Proofs
open Go.Shelf
def Tryz.lays156_ren:Go.Shelf.Ren:=⟨fun|156=>143|165=>177|166=>178|169=>179|240=>191|241=>192|276=>199|277=>200|n=>n,fun|31=>136|9=>9|3=>3|4=>4|0=>0|20=>20|72=>200|76=>204|70=>198|37=>188|75=>203|127=>218|164=>223|5=>5|80=>152|n=>n,fun|n=>n⟩
theorem Tryz.lays156:Go.Proofs.Lays.n156 Tryz.prog Tryz.lays156_ren:={
 mixed:=by kernel_rfl
 f156:=Tryz.func143.trans (congrArg some (by kernel_rfl))
 f165:=Tryz.func177.trans (congrArg some (by kernel_rfl))
 f166:=Tryz.func178.trans (congrArg some (by kernel_rfl))
 f169:=Tryz.func179.trans (congrArg some (by kernel_rfl))
 f240:=Tryz.func191.trans (congrArg some (by kernel_rfl))
 f241:=Tryz.func192.trans (congrArg some (by kernel_rfl))
 f276:=Tryz.func199.trans (congrArg some (by kernel_rfl))
 f277:=Tryz.func200.trans (congrArg some (by kernel_rfl))
 t0:=Tryz.underlying0
 a0:=Tryz.isAgg0
 z0:=Tryz.sizeOf0
 v0:=Tryz.zeroValue0
 t3:=Tryz.underlying3
 a3:=Tryz.isAgg3
 z3:=Tryz.sizeOf3
 v3:=Tryz.zeroValue3
 t4:=Tryz.underlying4
 a4:=Tryz.isAgg4
 z4:=Tryz.sizeOf4
 v4:=Tryz.zeroValue4
 t9:=Tryz.underlying9
 a9:=Tryz.isAgg9
 z9:=Tryz.sizeOf9
 v9:=Tryz.zeroValue9
 t20:=Tryz.underlying20
 a20:=Tryz.isAgg20
 z20:=Tryz.sizeOf20
 v20:=Tryz.zeroValue20
 t31:=Tryz.underlying136
 a31:=Tryz.isAgg136
 z31:=Tryz.sizeOf136
 v31:=Tryz.zeroValue136
 t37:=Tryz.underlying188
 a37:=Tryz.isAgg188
 z37:=Tryz.sizeOf188
 v37:=Tryz.zeroValue188
 t70:=Tryz.underlying198
 a70:=Tryz.isAgg198
 z70:=Tryz.sizeOf198
 v70:=Tryz.zeroValue198
 t72:=Tryz.underlying200
 a72:=Tryz.isAgg200
 z72:=Tryz.sizeOf200
 v72:=Tryz.zeroValue200
 t75:=Tryz.underlying203
 a75:=Tryz.isAgg203
 z75:=Tryz.sizeOf203
 v75:=Tryz.zeroValue203
 t76:=Tryz.underlying204
 a76:=Tryz.isAgg204
 z76:=Tryz.sizeOf204
 v76:=Tryz.zeroValue204
 t127:=Tryz.underlying218
 a127:=Tryz.isAgg218
 z127:=Tryz.sizeOf218
 v127:=Tryz.zeroValue218
 t164:=Tryz.underlying223
 a164:=Tryz.isAgg223
 z164:=Tryz.sizeOf223
 v164:=Tryz.zeroValue223 }
theorem Tryz.Builder_Extra_156:Builder.Extra Tryz.prog Tryz.lays156_ren:={
 sizeBuilder:=by kernel_rfl
 liesBuilder:=by kernel_rfl
 t5:=Tryz.underlying5
 a5:=Tryz.isAgg5
 z5:=Tryz.sizeOf5
 v5:=Tryz.zeroValue5
 infoByte:=by kernel_rfl
 cellsByte:=by kernel_rfl
 sizeByte:=by kernel_rfl
 neB5:=by decide }
open Go.RowKit in
theorem Tryz.strings_Join_none (a:Option Addr) (c:Nat) (sep:ByteArray) (w:World) :
  Calls Tryz.prog 143 #[.slice a 0 c,.string sep] w fun e w'=>e=.returned (.string ⟨#[]⟩)∧w'=w:=Any.strings_Join_none Tryz.lays156 Tryz.Builder_Extra_156 a c sep w
open Go.RowKit in
theorem Tryz.strings_Join (bk o c:Nat) (xs:List ByteArray) (sep:ByteArray) (w:World) (hcells:∀ (j:Nat) x,xs[j]?=some x→w.cell? ⟨bk,o+j,none⟩=some (.string x)) (hbk:bk<w.heap.size) (hN:xs.length≤140737488355328) (hcap:xs.length≤c) (hlen:(Lib.join (xs.map (·.data.toList)) sep.data.toList).length≤140737488355328) :
  Calls Tryz.prog 143 #[.slice (some ⟨bk,o,none⟩) xs.length c,.string sep] w fun e w'=>e=.returned (.string ⟨(Lib.join (xs.map (·.data.toList)) sep.data.toList).toArray⟩)∧Below w.heap.size w w':=Any.strings_Join Tryz.lays156 Tryz.Builder_Extra_156 bk o c xs sep w hcells hbk hN hcap hlen
def Tryz.lays283_ren:Go.Shelf.Ren:=⟨fun|283=>205|n=>n,fun|3=>3|9=>9|4=>4|n=>n,fun|n=>n⟩
theorem Tryz.lays283:Go.Proofs.Lays.n283 Tryz.prog Tryz.lays283_ren:={
 mixed:=by kernel_rfl
 f283:=Tryz.func205.trans (congrArg some (by kernel_rfl))
 t3:=Tryz.underlying3
 a3:=Tryz.isAgg3
 z3:=Tryz.sizeOf3
 v3:=Tryz.zeroValue3
 t4:=Tryz.underlying4
 a4:=Tryz.isAgg4
 z4:=Tryz.sizeOf4
 v4:=Tryz.zeroValue4
 t9:=Tryz.underlying9
 a9:=Tryz.isAgg9
 z9:=Tryz.sizeOf9
 v9:=Tryz.zeroValue9 }
open Go.Lib in
theorem Tryz.internal_strconv_small (i:Nat) (h:i<100) (w:World) :
  Calls Tryz.prog 205 #[.int .i64 i] w fun e w'=>e=.returned (.string ⟨(Lib.decDigits i).toArray⟩)∧w'=w:=Any.internal_strconv_small Tryz.lays283 i h w
def Tryz.laysM284_ren:Go.Shelf.Ren:=⟨fun|284=>206|129=>218|317=>217|318=>219|n=>n,fun|53=>35|3=>3|212=>241|0=>0|4=>4|46=>193|5=>5|9=>9|n=>n,fun|17=>1|n=>n⟩
theorem Tryz.laysM284:Go.Proofs.LaysM.n284 Tryz.prog Tryz.laysM284_ren:={
 mixed:=by kernel_rfl
 f129:=Tryz.func218.trans (congrArg some (by kernel_rfl))
 f284:=Tryz.func206.trans (congrArg some (by kernel_rfl))
 f317:=Tryz.func217.trans (congrArg some (by kernel_rfl))
 f318:=Tryz.func219.trans (congrArg some (by kernel_rfl))
 t0:=Tryz.underlying0
 a0:=Tryz.isAgg0
 z0:=Tryz.sizeOf0
 v0:=Tryz.zeroValue0
 t3:=Tryz.underlying3
 a3:=Tryz.isAgg3
 z3:=Tryz.sizeOf3
 v3:=Tryz.zeroValue3
 t4:=Tryz.underlying4
 a4:=Tryz.isAgg4
 z4:=Tryz.sizeOf4
 v4:=Tryz.zeroValue4
 t5:=Tryz.underlying5
 a5:=Tryz.isAgg5
 z5:=Tryz.sizeOf5
 v5:=Tryz.zeroValue5
 t9:=Tryz.underlying9
 a9:=Tryz.isAgg9
 z9:=Tryz.sizeOf9
 v9:=Tryz.zeroValue9
 t46:=Tryz.underlying193
 a46:=Tryz.isAgg193
 z46:=Tryz.sizeOf193
 v46:=Tryz.zeroValue193
 t53:=Tryz.underlying35
 a53:=Tryz.isAgg35
 z53:=Tryz.sizeOf35
 v53:=Tryz.zeroValue35
 t212:=Tryz.underlying241
 a212:=Tryz.isAgg241
 z212:=Tryz.sizeOf241
 v212:=Tryz.zeroValue241
 g17:=by kernel_rfl
 i0:=by kernel_rfl
 i3:=by kernel_rfl
 i4:=by kernel_rfl
 i5:=by kernel_rfl
 i9:=by kernel_rfl
 i46:=by kernel_rfl
 i53:=by kernel_rfl
 i212:=by kernel_rfl
 m17:=by kernel_rfl }
open Go.Lib in
theorem Tryz.internal_strconv_numDigits (u:Nat) (h1:1≤u) (h2:u<18446744073709551616) (w:World) (htab:Lib.TabIs Tryz.prog w "internal/strconv.uint64pow10" .u64 Lib.pow10Tab) :
  Calls Tryz.prog 206 #[.int .u64 u] w fun e w'=>e=.returned (.int .i64 (Lib.nDigits u))∧w'=w:=Any.internal_strconv_numDigits Tryz.laysM284 u h1 h2 w htab
def Tryz.lays285_ren:Go.Shelf.Ren:=⟨fun|285=>207|n=>n,fun|37=>188|53=>35|3=>3|4=>4|51=>242|9=>9|5=>5|0=>0|n=>n,fun|n=>n⟩
theorem Tryz.lays285:Go.Proofs.Lays.n285 Tryz.prog Tryz.lays285_ren:={
 mixed:=by kernel_rfl
 f285:=Tryz.func207.trans (congrArg some (by kernel_rfl))
 t0:=Tryz.underlying0
 a0:=Tryz.isAgg0
 z0:=Tryz.sizeOf0
 v0:=Tryz.zeroValue0
 t3:=Tryz.underlying3
 a3:=Tryz.isAgg3
 z3:=Tryz.sizeOf3
 v3:=Tryz.zeroValue3
 t4:=Tryz.underlying4
 a4:=Tryz.isAgg4
 z4:=Tryz.sizeOf4
 v4:=Tryz.zeroValue4
 t5:=Tryz.underlying5
 a5:=Tryz.isAgg5
 z5:=Tryz.sizeOf5
 v5:=Tryz.zeroValue5
 t9:=Tryz.underlying9
 a9:=Tryz.isAgg9
 z9:=Tryz.sizeOf9
 v9:=Tryz.zeroValue9
 t37:=Tryz.underlying188
 a37:=Tryz.isAgg188
 z37:=Tryz.sizeOf188
 v37:=Tryz.zeroValue188
 t51:=Tryz.underlying242
 a51:=Tryz.isAgg242
 z51:=Tryz.sizeOf242
 v51:=Tryz.zeroValue242
 t53:=Tryz.underlying35
 a53:=Tryz.isAgg35
 z53:=Tryz.sizeOf35
 v53:=Tryz.zeroValue35 }
open Go.RowKit Go.Sort Go.Lib in
theorem Tryz.internal_strconv_formatBase10 (blk off cap:Nat) (u:Nat) (d:Array UInt8) (w:World) (hH:Holds (fun (b:UInt8)=>Value.int .u8 (b.toNat:Int)) w blk off d) (hu:u<10 ^ d.size) (hu64:u<18446744073709551616) (hsz:d.size<4611686018427387904) :
  Calls Tryz.prog 207 #[.slice (some ⟨blk,off,none⟩) d.size cap,.int .u64 u] w fun e w'=>
   e=.returned (.tuple #[])∧∃ (n v':Nat) (dk:Array UInt8),w'=(putRow (fun (b:UInt8)=>Value.int .u8 (b.toNat:Int)) w blk off dk).drewN n∧FmtInv d.size u 0 v' dk:=Any.internal_strconv_formatBase10 Tryz.lays285 blk off cap u d w hH hu hu64 hsz
def Tryz.lays219_ren:Go.Shelf.Ren:=⟨fun|219=>202|217=>212|225=>213|224=>214|267=>215|266=>222|314=>223|n=>n,fun|9=>9|3=>3|4=>4|5=>5|46=>193|146=>245|51=>242|n=>n,fun|1=>0|n=>n⟩
def Tryz.lays144_ren:Go.Shelf.Ren:=⟨fun|144=>182|143=>194|219=>202|217=>212|225=>213|224=>214|267=>215|266=>222|314=>223|n=>n,fun|9=>9|4=>4|3=>3|5=>5|46=>193|146=>245|51=>242|n=>n,fun|1=>0|n=>n⟩
theorem Tryz.lays144:Go.Proofs.Lays.n144 Tryz.prog Tryz.lays144_ren:={
 mixed:=by kernel_rfl
 f143:=Tryz.func194.trans (congrArg some (by kernel_rfl))
 f144:=Tryz.func182.trans (congrArg some (by kernel_rfl))
 f217:=Tryz.func212.trans (congrArg some (by kernel_rfl))
 f219:=Tryz.func202.trans (congrArg some (by kernel_rfl))
 f224:=Tryz.func214.trans (congrArg some (by kernel_rfl))
 f225:=Tryz.func213.trans (congrArg some (by kernel_rfl))
 f266:=Tryz.func222.trans (congrArg some (by kernel_rfl))
 f267:=Tryz.func215.trans (congrArg some (by kernel_rfl))
 f314:=Tryz.func223.trans (congrArg some (by kernel_rfl))
 t3:=Tryz.underlying3
 a3:=Tryz.isAgg3
 z3:=Tryz.sizeOf3
 v3:=Tryz.zeroValue3
 t4:=Tryz.underlying4
 a4:=Tryz.isAgg4
 z4:=Tryz.sizeOf4
 v4:=Tryz.zeroValue4
 t5:=Tryz.underlying5
 a5:=Tryz.isAgg5
 z5:=Tryz.sizeOf5
 v5:=Tryz.zeroValue5
 t9:=Tryz.underlying9
 a9:=Tryz.isAgg9
 z9:=Tryz.sizeOf9
 v9:=Tryz.zeroValue9
 t46:=Tryz.underlying193
 a46:=Tryz.isAgg193
 z46:=Tryz.sizeOf193
 v46:=Tryz.zeroValue193
 t51:=Tryz.underlying242
 a51:=Tryz.isAgg242
 z51:=Tryz.sizeOf242
 v51:=Tryz.zeroValue242
 t146:=Tryz.underlying245
 a146:=Tryz.isAgg245
 z146:=Tryz.sizeOf245
 v146:=Tryz.zeroValue245
 g1:=by kernel_rfl }
open Go.RowKit Go.Lib in
theorem Tryz.strings_Contains_one (s:ByteArray) (c:UInt8) (w:World) :
  Calls Tryz.prog 182 #[.string s,.string ⟨#[c]⟩] w fun e w'=>e=.returned (.bool (decide (0≤Lib.indexByte s.data.toList c)))∧w'=w:=Any.strings_Contains_one Tryz.lays144 s c w
def Tryz.lays260_ren:Go.Shelf.Ren:=⟨fun|260=>216|n=>n,fun|9=>9|21=>21|3=>3|4=>4|5=>5|119=>247|0=>0|46=>193|139=>250|138=>249|n=>n,fun|3=>2|4=>3|n=>n⟩
theorem Tryz.lays260:Go.Proofs.Lays.n260 Tryz.prog Tryz.lays260_ren:={
 mixed:=by kernel_rfl
 f260:=Tryz.func216.trans (congrArg some (by kernel_rfl))
 t0:=Tryz.underlying0
 a0:=Tryz.isAgg0
 z0:=Tryz.sizeOf0
 v0:=Tryz.zeroValue0
 t3:=Tryz.underlying3
 a3:=Tryz.isAgg3
 z3:=Tryz.sizeOf3
 v3:=Tryz.zeroValue3
 t4:=Tryz.underlying4
 a4:=Tryz.isAgg4
 z4:=Tryz.sizeOf4
 v4:=Tryz.zeroValue4
 t5:=Tryz.underlying5
 a5:=Tryz.isAgg5
 z5:=Tryz.sizeOf5
 v5:=Tryz.zeroValue5
 t9:=Tryz.underlying9
 a9:=Tryz.isAgg9
 z9:=Tryz.sizeOf9
 v9:=Tryz.zeroValue9
 t21:=Tryz.underlying21
 a21:=Tryz.isAgg21
 z21:=Tryz.sizeOf21
 v21:=Tryz.zeroValue21
 t46:=Tryz.underlying193
 a46:=Tryz.isAgg193
 z46:=Tryz.sizeOf193
 v46:=Tryz.zeroValue193
 t119:=Tryz.underlying247
 a119:=Tryz.isAgg247
 z119:=Tryz.sizeOf247
 t138:=Tryz.underlying249
 a138:=Tryz.isAgg249
 z138:=Tryz.sizeOf249
 v138:=Tryz.zeroValue249
 t139:=Tryz.underlying250
 a139:=Tryz.isAgg250
 z139:=Tryz.sizeOf250
 v139:=Tryz.zeroValue250
 g3:=by kernel_rfl
 g4:=by kernel_rfl }
def Tryz.lays197_ren:Go.Shelf.Ren:=⟨fun|197=>204|260=>216|n=>n,fun|9=>9|21=>21|3=>3|4=>4|5=>5|105=>221|119=>247|0=>0|46=>193|139=>250|138=>249|n=>n,fun|3=>2|4=>3|n=>n⟩
def Tryz.lays271_ren:Go.Shelf.Ren:=⟨fun|271=>195|120=>203|197=>204|260=>216|n=>n,fun|9=>9|21=>21|3=>3|4=>4|5=>5|105=>221|119=>247|0=>0|46=>193|139=>250|138=>249|n=>n,fun|3=>2|4=>3|n=>n⟩
theorem Tryz.lays271:Go.Proofs.Lays.n271 Tryz.prog Tryz.lays271_ren:={
 mixed:=by kernel_rfl
 f120:=Tryz.func203.trans (congrArg some (by kernel_rfl))
 f197:=Tryz.func204.trans (congrArg some (by kernel_rfl))
 f260:=Tryz.func216.trans (congrArg some (by kernel_rfl))
 f271:=Tryz.func195.trans (congrArg some (by kernel_rfl))
 t0:=Tryz.underlying0
 a0:=Tryz.isAgg0
 z0:=Tryz.sizeOf0
 v0:=Tryz.zeroValue0
 t3:=Tryz.underlying3
 a3:=Tryz.isAgg3
 z3:=Tryz.sizeOf3
 v3:=Tryz.zeroValue3
 t4:=Tryz.underlying4
 a4:=Tryz.isAgg4
 z4:=Tryz.sizeOf4
 v4:=Tryz.zeroValue4
 t5:=Tryz.underlying5
 a5:=Tryz.isAgg5
 z5:=Tryz.sizeOf5
 v5:=Tryz.zeroValue5
 t9:=Tryz.underlying9
 a9:=Tryz.isAgg9
 z9:=Tryz.sizeOf9
 v9:=Tryz.zeroValue9
 t21:=Tryz.underlying21
 a21:=Tryz.isAgg21
 z21:=Tryz.sizeOf21
 v21:=Tryz.zeroValue21
 t46:=Tryz.underlying193
 a46:=Tryz.isAgg193
 z46:=Tryz.sizeOf193
 v46:=Tryz.zeroValue193
 t105:=Tryz.underlying221
 a105:=Tryz.isAgg221
 z105:=Tryz.sizeOf221
 v105:=Tryz.zeroValue221
 t119:=Tryz.underlying247
 a119:=Tryz.isAgg247
 z119:=Tryz.sizeOf247
 t138:=Tryz.underlying249
 a138:=Tryz.isAgg249
 z138:=Tryz.sizeOf249
 v138:=Tryz.zeroValue249
 t139:=Tryz.underlying250
 a139:=Tryz.isAgg250
 z139:=Tryz.sizeOf250
 v139:=Tryz.zeroValue250
 g3:=by kernel_rfl
 g4:=by kernel_rfl }
open Go.RowKit Go.Lib in
theorem Tryz.utf8_DecodeLastRuneInString (s:ByteArray) (w:World) (hs:s.size≤9223372036854775807) (hT:Lib.Utf8Tabs 2 3 w) :
  Calls Tryz.prog 195 #[.string s] w fun e w'=>e=.returned (.tuple #[.int .i32 (Lib.decodeLastL s.data.toList).1,.int .i64 (Lib.decodeLastL s.data.toList).2])∧Below w.heap.size w w':=Any.utf8_DecodeLastRuneInString Tryz.lays271 s w hs hT
end Go.Proofs
end
namespace Go.Proofs.YtdembmaldllmkaaGreatDoor
section
open Go.RowKit
def I64 (n:Int):Prop:=-9223372036854775808≤n∧n≤9223372036854775807
def U64 (n:Int):Prop:=0≤n∧n<18446744073709551616
structure Expr where
 kind:Int
 num:Int
 name:ByteArray
 args:List Expr
structure Stmt where
 kind:Int
 name:ByteArray
 num:Int
 args:List Expr
 thn:List Stmt
 els:List Stmt
structure z8 where
 name:ByteArray
 kind:Int
 len:Int
structure Fun where
 name:ByteArray
 out:Bool
 params:List z8
 body:List Stmt
structure Arr where
 name:ByteArray
 len:Int
structure Src where
 secrets:List Arr
 funcs:List Fun
mutual
def Expr.wt:Expr→Nat
 | ⟨_,_,s,gk⟩=>1+s.size+wtEs gk
def wtEs:List Expr→Nat
 | []=>0
 | e::es=>e.wt+wtEs es
end
mutual
def Stmt.wt:Stmt→Nat
 | ⟨_,s,_,gk,t,e⟩=>1+s.size+wtEs gk+wtSs t+wtSs e
def wtSs:List Stmt→Nat
 | []=>0
 | x::xs=>x.wt+wtSs xs
end
def Row {α:Type} (sz:Nat) (R:Nat→Nat→α→Prop) (b o:Nat) (l:List α):Prop:=
 ∀ (j:Nat) (x:α),l[j]?=some x→R b (o+j * sz) x
def Sl {α:Type} (sz:Nat) (R:Nat→Nat→α→Prop) (v:Value) (l:List α):Prop:=
 ∃ a c,v=.slice a l.length c∧l.length≤c∧l.length≤140737488351232∧(l≠[]→∃ b o,a=some ⟨b,o,none⟩∧Row sz R b o l)
def IntAt (w:World) (k:IntKind) (b o:Nat) (n:Int):Prop:=w.cell? ⟨b,o,none⟩=some (.int k n)
def StrAt (w:World) (b o:Nat) (s:ByteArray):Prop:=w.cell? ⟨b,o,none⟩=some (.string s)∧s.size≤140737488351232
mutual
def zo (w:World) (b o:Nat):Expr→Prop
 | ⟨k,n,s,gk⟩=>IntAt w .i64 b o k∧I64 k∧IntAt w .u64 b (o+1) n∧U64 n∧StrAt w b (o+2) s ∧
   ∃ a c,w.cell? ⟨b,o+3,none⟩=some (.slice a gk.length c)∧gk.length≤c∧gk.length≤140737488351232∧(gk≠[]→∃ b' o',a=some ⟨b',o',none⟩∧yt w b' o' gk)
def yt (w:World) (b o:Nat):List Expr→Prop
 | []=>True
 | e::es=>zo w b o e∧yt w b (o+4) es
end
end
section
abbrev Txt:=List UInt8
def S (l:Txt):ByteArray:=⟨l.toArray⟩
theorem S_toList (l:Txt):(S l).data.toList=l:=by simp [S]
theorem S_of (s:ByteArray):S s.data.toList=s:=by cases s;simp [S]
theorem S_size (l:Txt):(S l).size=l.length:=by simp [S,ByteArray.size]
def xd (c:UInt8):Bool:=(97≤c && c≤122) || c == 95
def digit (c:UInt8):Bool:=48≤c && c≤57
def firstLetter:Txt→Bool
 | c::_=>xd c
 | []=>false
def nameOk (s:Txt):Bool:=
 decide (1≤s.length) && decide (s.length≤24) && firstLetter s && s.all fun c=>xd c || digit c
def jw (ws:List Txt):Txt:=40::(Lib.join ws [32]++[41])
def xz (n:Int):Option Txt:=
 if n=0 then some [97,100,100] else if n=1 then some [115,117,98] else if n=2 then some [115,104,108] else if n=3 then some [115,108,116]
 else if n=4 then some [115,108,116,117] else if n=5 then some [120,111,114] else if n=6 then some [115,104,114] else if n=7 then some [115,97,114]
 else if n=8 then some [111,114] else if n=9 then some [97,110,100] else if n=10 then some [109,117,108] else if n=13 then some [100,105,118,117]
 else if n=15 then some [114,101,109,117] else none
structure Shape where
 word:Txt
 name:Bool
 num:Bool
 least:Int
 most:Int
 thn:Bool
 other:Bool
def exprShapes:List Shape:=
 [⟨[],false,true,0,0,false,false⟩,⟨[],true,false,0,0,false,false⟩,⟨[103,101,116],true,false,1,1,false,false⟩,⟨[],false,true,2,2,false,false⟩,
 ⟨[115,101,108],false,false,3,3,false,false⟩,⟨[99,97,108,108],true,false,0,6,false,false⟩,⟨[111,112,101,110],false,false,1,1,false,false⟩]
def stmtShapes:List Shape:=
 [⟨[115,101,116],true,false,1,1,false,false⟩,⟨[112,117,116],true,false,2,2,false,false⟩,⟨[105,102],false,false,1,1,true,true⟩,
 ⟨[102,111,114],true,true,0,0,true,false⟩,⟨[114,101,116],false,false,1,1,false,false⟩]
def Shape.none:Shape:=⟨[],false,false,0,0,false,false⟩
def jk (k:Int):Shape:=exprShapes.getD k.toNat Shape.none
def js (k:Int):Shape:=stmtShapes.getD k.toNat Shape.none
def fitOk (s:Shape) (name:Txt) (num:Bool) (args:Int):Bool:=
 decide (s.least≤args) && decide (args≤s.most) && (s.name || name.isEmpty) && (s.num || !num)
def fits (s:Shape) (name:Txt) (num:Bool) (args:Int):Option (List Txt):=
 if fitOk s name num args=true then
  if s.name=true then (if nameOk name=true then some ((if s.word=[] then [] else [s.word])++[name]) else none)
  else some (if s.word=[] then [] else [s.word])
 else none
mutual
def zp:Expr→Option Txt
 | ⟨k,n,s,gk⟩=>
  if 0≤k∧k≤6 then
   (fits (jk k) s.data.toList (decide (n≠0)) gk.length).bind fun words=>
    if k=0 then some (Lib.decDigits n.toNat) else if k=1 then some (words.getD 0 [])
    else (if k=3 then (xz n).map (fun w=>[w]) else some words).bind fun ws=>(ju gk).bind fun ts=>some (jw (ws++ts))
  else none
def ju:List Expr→Option (List Txt)
 | []=>some []
 | e::es=>(zp e).bind fun t=>(ju es).bind fun ts=>some (t::ts)
end
def zb (n:Int):Option Txt:=if 1≤n∧n≤64 then some (Lib.decDigits n.toNat) else none
def jl (s:Txt):Option Txt:=if nameOk s=true then some s else none
mutual
def zk:Stmt→Option Txt
 | ⟨k,s,n,gk,t,e⟩=>
  if 0≤k∧k≤4 then
   (fits (js k) s.data.toList (decide (n≠0)) gk.length).bind fun words=>
    if ((js k).thn=true∨t=[])∧((js k).other=true∨e=[]) then
     (if (js k).num=true then (zb n).map (fun d=>words++[d]) else some words).bind fun ws=>
     (ju gk).bind fun ts=>(jy t).bind fun thn=>
     if (js k).other=true then (jy e).bind fun els=>some (jw (ws++ts++[jw thn,jw els]))
     else some (jw (ws++ts++thn))
    else none
  else none
def jy:List Stmt→Option (List Txt)
 | []=>some []
 | x::xs=>(zk x).bind fun t=>(jy xs).bind fun ts=>some (t::ts)
end
def zg (x:z8):Option Txt:=
 if x.kind=2∨x.len=0 then
  if x.kind=0 then jl x.name.data.toList
  else if x.kind=1 then (jl x.name.data.toList).map fun s=>jw [[115,101,99],s]
  else if x.kind=2 then (jl x.name.data.toList).bind fun s=>(zb x.len).map fun d=>jw [[112,116,114],s,d]
  else none
 else none
def jx {α:Type} (f:α→Option Txt):List α→Option (List Txt)
 | []=>some []
 | x::xs=>(f x).bind fun t=>(jx f xs).bind fun ts=>some (t::ts)
theorem exprTexts_all (l:List Expr):ju l=jx zp l:=by
 induction l with
 | nil=>rfl
 | cons x xs ih=>simp [ju,jx,ih]
theorem xj (l:List Stmt):jy l=jx zk l:=by
 induction l with
 | nil=>rfl
 | cons x xs ih=>simp [jy,jx,ih]
def xf (x:Fun):Option Txt:=
 if x.params.length≤6 then
  (jl x.name.data.toList).bind fun s=>(jx zg x.params).bind fun ps=>(jx zk x.body).bind fun b=>
   some (jw ([if x.out=true then [101,120,112,111,114,116] else [102,117,110],s,jw ps]++b))
 else none
def ky (x:Arr):Option Txt:=(jl x.name.data.toList).bind fun s=>(zb x.len).map fun d=>jw [[115,101,99,114,101,116],s,d]
def deepStep (st:Int×Int) (c:UInt8):Int×Int:=
 let now:=if c=40 then st.2+1 else if c=41 then st.2 - 1 else st.2
 (max st.1 now,now)
def deep (s:Txt):Int:=(s.foldl deepStep (0,0)).1
def yh (p:Src):Option Txt:=
 if p.secrets.length≤32∧p.funcs.length≤32 then
  (jx ky p.secrets).bind fun a=>(jx xf p.funcs).bind fun f=>
   let out:=Lib.join (a++f++[[]]) [10]
   if deep out≤24 then some out else none
 else none
end
section
open Go.RowKit
def slot (a:Act) (t:Nat):Value:=a.tmps.getD t undef
theorem ja (a:Act) (t:Nat):a.eval (.tmp t)=slot a t:=rfl
theorem jh {a:Act} {t:Nat} {v:Value} (h:slot a t=v):a.tmps[t]?.getD undef=v:=by
 rw [← h,slot,wn]
theorem vn (a:Act) (d t:Nat) (v:Value) (h:d≠t):slot (a.put (some d) v) t=slot a t:=by
 simp [slot,Act.put,Array.getElem?_setIfInBounds_ne h]
theorem qp (a:Act) (d:Nat) (v:Value) (h:d<a.tmps.size):slot (a.put (some d) v) d=v:=by
 simp [slot,Act.put,h]
theorem size_put (a:Act) (d:Option Tmp) (v:Value):(a.put d v).tmps.size=a.tmps.size:=by
 cases d<;>simp [Act.put]
theorem defers_put (a:Act) (d:Option Tmp) (v:Value):(a.put d v).defers=a.defers:=by
 cases d<;>simp [Act.put]
def left (a:Act) (o:Oper):Value:=match o.dst with|some d=>slot a d|none=>undef
def qz (ops:Array Oper) (size:Nat):Bool:=
 (ops.toList.zipIdx.all fun (o,i)=>(match o.dst with|some d=>decide (d<size)|none=>true) && o.after.all (fun e=>!Region.binds .any e || decide (e.on<i))) &&
 (let ds:=ops.toList.filterMap (·.dst);decide ds.Nodup)
theorem nodup_dst:∀ (l:List Oper),(l.filterMap (·.dst)).Nodup→∀ (i j:Nat) (x y:Oper) (d:Nat),l[i]?=some x→l[j]?=some y→x.dst=some d→y.dst=some d→i=j
 | [],_,i,_,_,_,_,hi,_,_,_=>by simp at hi
 | o::l,h,i,j,x,y,d,hi,hj,hx,hy=>by
  have htail:(l.filterMap (·.dst)).Nodup:=by
   rw [List.filterMap_cons] at h
   split at h
   ·exact h
   ·exact (List.nodup_cons.1 h).2
  have hin:∀ (k:Nat) (z:Oper),l[k]?=some z→z.dst=some d→d∈l.filterMap (·.dst):=fun k z hk hz=>List.mem_filterMap.2 ⟨z,gg hk,hz⟩
  cases i with
  | zero=>
   cases j with
   | zero=>rfl
   | succ j=>
    simp at hi hj
    subst hi
    rw [List.filterMap_cons,hx] at h
    exact absurd (hin j y hj hy) (List.nodup_cons.1 h).1
  | succ i=>
   cases j with
   | zero=>
    simp at hi hj
    subst hj
    rw [List.filterMap_cons,hy] at h
    exact absurd (hin i x hi hx) (List.nodup_cons.1 h).1
   | succ j=>
    simp at hi hj
    rw [nodup_dst l htail i j x y d hi hj hx hy]
structure Fit (ops:Array Oper) (size:Nat):Prop where
 lt:∀ (i:Nat) (o:Oper) (d:Nat),ops[i]?=some o→o.dst=some d→d<size
 on:∀ (i:Nat) (o:Oper) (e:Edge),ops[i]?=some o→e∈o.after→Region.binds .any e=true→e.on<i
 own:∀ (i j:Nat) (x y:Oper) (d:Nat),ops[i]?=some x→ops[j]?=some y→x.dst=some d→y.dst=some d→i=j
theorem fit_of {ops:Array Oper} {size:Nat} (h:qz ops size=true):Fit ops size:=by
 simp only [qz,Bool.and_eq_true,List.all_eq_true,decide_eq_true_eq] at h
 obtain ⟨h1,h2⟩:=h
 have hm:∀ (i:Nat) (o:Oper),ops[i]?=some o→(o,i)∈ops.toList.zipIdx:=fun i o ho=>by
  rw [List.mk_mem_zipIdx_iff_getElem?];simpa using ho
 refine ⟨fun i o d ho hd=>?_,fun i o e ho he hb=>?_,fun i j x y d hi hj hx hy=>nodup_dst ops.toList h2 i j x y d (by simpa using hi) (by simpa using hj) hx hy⟩
 ·have:=(h1 _ (hm i o ho)).1
  simpa [hd] using this
 ·have:=(h1 _ (hm i o ho)).2
  simp only [Array.all_eq_true_iff_forall_mem] at this
  have:=this e he
  simp [hb] at this
  exact this
section
variable {P:Program} {ops:Array Oper} {Q:Exit→Act→World→Prop}
structure Frm (ops:Array Oper) (a₀ a:Act):Prop where
 size:a.tmps.size=a₀.tmps.size
 defers:a.defers=a₀.defers
 other:∀ t,(∀ o∈ops.toList,o.dst≠some t)→slot a t=slot a₀ t
theorem Frm.put {a₀ a:Act} (h:Frm ops a₀ a) {i:Nat} {o:Oper} (ho:ops[i]?=some o) (v:Value):Frm ops a₀ (a.put o.dst v):=by
 refine ⟨(size_put _ _ _).trans h.size,(defers_put _ _ _).trans h.defers,fun t ht=>?_⟩
 cases hd:o.dst with
 | none=>exact h.other t ht
 | some d=>
  have hne:d≠t:=fun e=>ht o (gg (by simpa using ho)) (e ▸ hd)
  rw [vn _ _ _ _ hne]
  exact h.other t ht
def StepOk (P:Program) (ops fo:Array Oper) (Q:Exit→Act→World→Prop) (T:World→World→Prop) (w₀:World) (a₀:Act) (Post:Nat→Value→World→Prop) (i:Nat) (o:Oper):Prop:=
 ∀ (a:Act) (w:World),T w₀ w→Frm fo a₀ a→(∀ (j:Nat) (x:Oper),ops[j]?=some x→(∃ e∈o.after,e.on=j∧Region.binds .any e=true)→Post j (left a x) w) →
  if Region.wanted o (yielded ops a.tmps) then o.wp P a w (fun a' w'=>∃ v,a'=a.put o.dst v∧T w w'∧Post i (if o.dst=none then undef else v) w') Q else Post i undef w
theorem count_set (l:List Bool) (i:Nat) (h:l[i]?=some false):(l.set i true).count false+1=l.count false:=by
 induction l generalizing i with
 | nil=>simp at h
 | cons b l ih=>
  cases i with
  | zero=>simp at h;subst h;simp
  | succ i=>
   simp at h
   have:=ih i h
   cases b<;>simp<;>omega
theorem wp_region_posts {id:Nat} {a₀:Act} {w:World} (hm:P.follows .mixedOrders=true) (T:World→World→Prop) (hrefl:∀ x,T x x) (htrans:∀ x y z,T x y→T y z→T x z) (hdrew:T w w.drew)
  (Post:Nat→Value→World→Prop) (hmono:∀ i v x y,Post i v x→T x y→Post i v y)
  (fit:qz ops a₀.tmps.size=true)
  (step:∀ (i:Nat) (o:Oper),ops[i]?=some o→StepOk P ops ops Q T w a₀ Post i o)
  (fin:∀ (a:Act) (w':World),T w w'→Frm ops a₀ a→(∀ (i:Nat) (o:Oper),ops[i]?=some o→Post i (left a o) w')→Q .normal a w') :
  (Code.region id ops true).wp P Q a₀ w:=by
 have F:=fit_of fit
 refine wp_region_any hm ?_
 have key:∀ (fuel:Nat) (listed:Array Bool) (a:Act) (x:World),listed.size=ops.size→listed.toList.count false≤fuel→T w x→Frm ops a₀ a →
   (∀ (i:Nat) (o:Oper),ops[i]?=some o→listed[i]?=some true→Post i (left a o) x)→wpAny P .any ops Q fuel listed a x:=by
  intro fuel
  induction fuel with
  | zero=>
   intro listed a x hsz hc hT hF hP
   have hall:∀ (i:Nat) (o:Oper),ops[i]?=some o→listed[i]?=some true:=fun i o ho=>by
    have hi:i<listed.size:=by have:=(wl.1 ho).1;omega
    rw [wm hi]
    have hnot:false ∉ listed.toList:=List.count_eq_zero.1 (by omega)
    cases hb:listed[i] with
    | true=>rfl
    | false=>exact absurd (hb ▸ (by simp:listed[i]∈listed.toList)) hnot
   have hr:Region.ready .any ops listed=[]:=by
    simp only [Region.ready,List.filter_eq_nil_iff,List.mem_range]
    intro i hi
    obtain ⟨o,ho⟩:∃ o,ops[i]?=some o:=⟨_,wm hi⟩
    have:=hall i o ho
    simp [wn,this]
   exact ⟨hr,fin a x hT hF (fun i o ho=>hP i o ho (hall i o ho))⟩
  | succ fuel ih=>
   intro listed a x hsz hc hT hF hP
   refine ⟨fun hr=>fin a x hT hF (fun i o ho=>hP i o ho ?_),fun i hi=>?_⟩
   ·
    have hall:∀ (n i:Nat),i≤n→∀ o,ops[i]?=some o→listed[i]?=some true:=by
     intro n
     induction n using Nat.strongRecOn with
     | _ n ihn=>
      intro i hin o ho
      have hi:i<listed.size:=by have:=(wl.1 ho).1;omega
      rw [wm hi]
      cases hb:listed[i] with
      | true=>rfl
      | false=>
       exfalso
       simp only [Region.ready,List.filter_eq_nil_iff,List.mem_range] at hr
       refine hr i (by omega) ?_
       simp only [wn,wm hi,hb,ho,Option.map_some,Option.getD_some,Bool.not_false,Bool.true_and]
       rw [Array.all_eq_true_iff_forall_mem]
       intro e he
       cases hbd:Region.binds .any e with
       | false=>rfl
       | true=>
        have hlt:=F.on i o e ho he hbd
        obtain ⟨o',ho'⟩:∃ o',ops[e.on]?=some o':=⟨_,wm (show e.on<ops.size by omega)⟩
        have:=ihn e.on (by omega) e.on (wo _) o' ho'
        simp [this]
    exact hall i i (wo _) o ho
   ·
    simp only [Region.ready,List.mem_filter,List.mem_range] at hi
    obtain ⟨hilt,hi2⟩:=hi
    obtain ⟨o,ho⟩:∃ o,ops[i]?=some o:=⟨_,wm hilt⟩
    have hil:i<listed.size:=by omega
    simp only [wn,wm hil,ho,Option.map_some,Option.getD_some,Bool.and_eq_true,Bool.not_eq_true',Array.all_eq_true_iff_forall_mem] at hi2
    obtain ⟨hib,hia⟩:=hi2
    have hst:=step i o ho a x hT hF (fun j y hj he=>hP j y hj (by
     obtain ⟨e,he1,he2,he3⟩:=he
     have h5:=hia e he1
     subst he2
     have hjl:e.on<listed.size:=by have:=(wl.1 hj).1;omega
     rw [wm hjl] at h5 ⊢
     simpa [he3] using h5))
    have hnew:∀ (v:Value) (x':World),T x x'→Post i (if o.dst=none then undef else v) x'→wpAny P .any ops Q fuel (listed.setIfInBounds i true) (a.put o.dst v) x':=by
     intro v x' hT' hp
     refine ih _ _ _ (by simp [hsz]) ?_ (htrans _ _ _ hT hT') (hF.put ho v) ?_
     ·have:=count_set listed.toList i (by simp [hil,hib])
      simp only [Array.toList_setIfInBounds]
      omega
     ·intro j y hj hlj
      by_cases hji:j=i
      ·subst hji
       obtain rfl:y=o:=by rw [ho] at hj;exact (Option.some.inj hj).symm
       cases hd:y.dst with
       | none=>simpa [left,hd] using hp
       | some d=>
        have hlt:=F.lt j y d hj hd
        simp only [left,hd]
        rw [qp _ _ _ (by rw [hF.size];exact hlt)]
        simpa [hd] using hp
      ·rw [Array.getElem?_setIfInBounds_ne (Ne.symm hji)] at hlj
       have hold:=hmono _ _ _ _ (hP j y hj hlj) hT'
       have he:left (a.put o.dst v) y=left a y:=by
        unfold left
        cases hd:y.dst with
        | none=>rfl
        | some d=>
         cases hd':o.dst with
         | none=>rfl
         | some d'=>
          simp only
          exact vn _ _ _ _ (fun e=>hji (F.own j i y o d hj ho hd (e ▸ hd')))
       rwa [he]
    simp only [wpOp,ho]
    split
    ·rename_i hw
     simp only [hw,if_true] at hst
     refine .inl (Oper.wp_mono ?_ hst)
     rintro a' x' ⟨v,rfl,hT',hp⟩
     exact hnew v x' hT' hp
    ·rename_i hw
     simp only [hw] at hst
     exact hnew undef x (hrefl x) (by split<;>exact hst)
 refine key _ _ _ _ (by simp) ?_ hdrew ⟨rfl,rfl,fun _ _=>rfl⟩ ?_
 ·simp
 ·intro i o _ h
  rw [Array.getElem?_replicate] at h
  split at h<;>simp at h
end
structure MP where
 p:Value→World→Prop
 mono:∀ v x y,p v x→Below x.heap.size x y→p v y
def MP.any:MP:=⟨fun _ _=>True,fun _ _ _ _ _=>trivial⟩
def MP.is (u:Value):MP:=⟨fun v _=>v=u,fun _ _ _ h _=>h⟩
def MP.val (q:Value→Prop):MP:=⟨fun v _=>q v,fun _ _ _ h _=>h⟩
def y7 (L:List MP) (i:Nat):Value→World→Prop:=(L.getD i MP.any).p
def DepsB (L:List MP) (ops:Array Oper) (a:Act) (w:World):List Edge→Prop
 | []=>True
 | e::es=>(Region.binds .any e=true→y7 L e.on (left a (ops.getD e.on default)) w)∧DepsB L ops a w es
def StepB (P:Program) (ops fo:Array Oper) (Q:Exit→Act→World→Prop) (L:List MP) (w₀:World) (a₀:Act) (i:Nat) (o:Oper):Prop:=
 ∀ (a:Act) (w:World),Below w₀.heap.size w₀ w→Frm fo a₀ a→DepsB L ops a w o.after.toList →
  if Region.wanted o (yielded ops a.tmps) then o.wp P a w (fun a' w'=>∃ v,a'=a.put o.dst v∧Below w.heap.size w w'∧y7 L i (if o.dst=none then undef else v) w') Q else y7 L i undef w
theorem jr {P:Program} {ops fo:Array Oper} {Q:Exit→Act→World→Prop} {L:List MP} {w₀:World} {a₀:Act} {i:Nat} {o:Oper} (hgd:o.guard=none)
  (h:∀ (a:Act) (w:World),Below w₀.heap.size w₀ w→Frm fo a₀ a→DepsB L ops a w o.after.toList →
   o.wp P a w (fun a' w'=>∃ v,a'=a.put o.dst v∧Below w.heap.size w w'∧y7 L i (if o.dst=none then undef else v) w') Q):StepB P ops fo Q L w₀ a₀ i o:=by
 intro a w hB hF hD
 rw [if_pos (by simp [Region.wanted,hgd])]
 exact h a w hB hF hD
theorem jc {P:Program} {ops fo:Array Oper} {Q:Exit→Act→World→Prop} {L:List MP} {w₀:World} {a₀:Act} {i:Nat} {o:Oper} {u:Value} (hgd:o.guard=none) (hd:o.dst.isSome=true) (hL:L.getD i MP.any=MP.is u)
  (h:∀ (a:Act) (w:World),Below w₀.heap.size w₀ w→Frm fo a₀ a→DepsB L ops a w o.after.toList→(execOp a.eval o).run P w=.ok (.value u) w):StepB P ops fo Q L w₀ a₀ i o:=by
 refine jr hgd fun a w hB hF hD=>?_
 unfold Oper.wp
 rw [h a w hB hF hD]
 refine ⟨u,rfl,wu _ _,?_⟩
 have hne:o.dst≠none:=by intro e;rw [e] at hd;cases hd
 rw [if_neg hne]
 unfold y7
 rw [hL]
 rfl
theorem zq {P:Program} {ops fo:Array Oper} {Q:Exit→Act→World→Prop} {L:List MP} {w₀:World} {a₀:Act} {i:Nat} {o:Oper} (hgd:o.guard=none) (hd:o.dst.isSome=true)
  (h:∀ (a:Act) (w:World),Below w₀.heap.size w₀ w→Frm fo a₀ a→DepsB L ops a w o.after.toList→∃ u,(execOp a.eval o).run P w=.ok (.value u) w∧y7 L i u w):StepB P ops fo Q L w₀ a₀ i o:=by
 refine jr hgd fun a w hB hF hD=>?_
 obtain ⟨u,hr,hp⟩:=h a w hB hF hD
 unfold Oper.wp
 rw [hr]
 refine ⟨u,rfl,wu _ _,?_⟩
 have hne:o.dst≠none:=by intro e;rw [e] at hd;cases hd
 rw [if_neg hne]
 exact hp
theorem jn {P:Program} {ops fo:Array Oper} {Q:Exit→Act→World→Prop} {L:List MP} {w₀:World} {a₀:Act} {i:Nat} {o:Oper} {f:FuncId} (hgd:o.guard=none) (hd:o.dst.isSome=true)
  (h:∀ (a:Act) (w:World),Below w₀.heap.size w₀ w→Frm fo a₀ a→DepsB L ops a w o.after.toList→∃ args,(execOp a.eval o).run P w=.ok (.enter f args) w ∧
   Calls P f args w (fun e w'=>Below w.heap.size w w'∧((∃ v,e=.returned v∧y7 L i v w')∨(∃ ch,e=.panicked ch∧Q (.panic ch) a w')))):StepB P ops fo Q L w₀ a₀ i o:=by
 refine jr hgd fun a w hB hF hD=>?_
 obtain ⟨args,hr,hc⟩:=h a w hB hF hD
 unfold Oper.wp
 rw [hr]
 refine hc.mono ?_
 rintro e w' ⟨hb,⟨v,rfl,hp⟩|⟨ch,rfl,hq⟩⟩
 ·have hne:o.dst≠none:=by intro e;rw [e] at hd;cases hd
  exact ⟨v,rfl,hb,by rw [if_neg hne];exact hp⟩
 ·exact hq
def StepsB (P:Program) (ops fo:Array Oper) (Q:Exit→Act→World→Prop) (L:List MP) (w₀:World) (a₀:Act):Nat→List Oper→Prop
 | _,[]=>True
 | i,o::l=>StepB P ops fo Q L w₀ a₀ i o∧StepsB P ops fo Q L w₀ a₀ (i+1) l
theorem stepsB_at {P:Program} {ops fo:Array Oper} {Q:Exit→Act→World→Prop} {L:List MP} {w₀:World} {a₀:Act}:∀ (l:List Oper) (k:Nat),StepsB P ops fo Q L w₀ a₀ k l→∀ (i:Nat) (o:Oper),l[i]?=some o→StepB P ops fo Q L w₀ a₀ (k+i) o
 | [],_,_,i,o,h=>by simp at h
 | x::l,k,hs,i,o,h=>by
  cases i with
  | zero=>simp at h;subst h;exact hs.1
  | succ i=>
   have:=stepsB_at l (k+1) hs.2 i o (by simpa using h)
   rwa [show k+1+i=k+(i+1) by omega] at this
def FinB (L:List MP) (a:Act) (w:World):Nat→List Oper→Prop
 | _,[]=>True
 | i,o::l=>y7 L i (left a o) w∧FinB L a w (i+1) l
theorem finB_of {L:List MP} {a:Act} {w:World}:∀ (l:List Oper) (k:Nat),(∀ (i:Nat) (o:Oper),l[i]?=some o→y7 L (k+i) (left a o) w)→FinB L a w k l
 | [],_,_=>trivial
 | x::l,k,h=>⟨h 0 x rfl,finB_of l (k+1) (fun i o ho=>by
   have:=h (i+1) o (by simpa using ho)
   rwa [show k+1+i=k+(i+1) by omega])⟩
theorem depsB_of {L:List MP} {ops:Array Oper} {a:Act} {w:World}:∀ (es:List Edge),(∀ (j:Nat) (x:Oper),ops[j]?=some x→(∃ e∈es,e.on=j∧Region.binds .any e=true)→y7 L j (left a x) w)→(∀ e∈es,Region.binds .any e=true→e.on<ops.size)→DepsB L ops a w es
 | [],_,_=>trivial
 | e::es,h,hb=>⟨fun hbd=>by
   have hlt:=hb e (by simp) hbd
   have:=h e.on (ops[e.on]) (wm hlt) ⟨e,by simp,rfl,hbd⟩
   simpa [Array.getD,hlt] using this,depsB_of es (fun j x hj ⟨e',he',h1,h2⟩=>h j x hj ⟨e',by simp [he'],h1,h2⟩) (fun e' he'=>hb e' (by simp [he']))⟩
theorem Frm.at {ops:Array Oper} {a₀ a:Act} (h:Frm ops a₀ a) (t:Nat) (hb:(ops.toList.all fun o=>o.dst != some t)=true):slot a t=slot a₀ t:=
 h.other t (fun o ho e=>by
  have:=List.all_eq_true.1 hb o ho
  simp [e] at this)
theorem wp_region_list {P:Program} {ops:Array Oper} {Q:Exit→Act→World→Prop} {id:Nat} {a₀:Act} {w:World} (hm:P.follows .mixedOrders=true) (L:List MP) (fit:qz ops a₀.tmps.size=true)
  (steps:StepsB P ops ops Q L w a₀ 0 ops.toList)
  (fin:∀ (a:Act) (w':World),Below w.heap.size w w'→Frm ops a₀ a→FinB L a w' 0 ops.toList→Q .normal a w'):(Code.region id ops true).wp P Q a₀ w:=by
 have F:=fit_of fit
 refine wp_region_posts hm (fun x y=>Below x.heap.size x y) (fun x=>wu _ _) (fun x y z h k=>h.trans (k.mono h.size)) ((wu _ _).drew) (y7 L) (fun i v x y h k=>(L.getD i MP.any).mono v x y h k) fit ?_ ?_
 ·intro i o ho a x hT hF hD
  have h:=stepsB_at ops.toList 0 steps i o (by simpa using ho)
  rw [Nat.zero_add] at h
  exact h a x hT hF (depsB_of _ (fun j y hj ⟨e,he,h1,h2⟩=>hD j y hj ⟨e,by simpa using he,h1,h2⟩) (fun e he hb=>by
   have h1:=F.on i o e ho (by simpa using he) hb
   have h2:=(wl.1 ho).1
   omega))
 ·intro a w' hT hF hP
  exact fin a w' hT hF (finB_of _ 0 (fun i o ho=>by rw [Nat.zero_add];exact hP i o (by simpa using ho)))
def puts (a:Act):List (Nat×Value)→Act
 | []=>a
 | (d,v)::l=>puts (a.put (some d) v) l
def Hold (x:Act):List (Nat×Value)→Prop
 | []=>True
 | (d,v)::l=>slot x d=v∧Hold x l
theorem puts_defers:∀ (l:List (Nat×Value)) (a:Act),(puts a l).defers=a.defers
 | [],_=>rfl
 | (d,v)::l,a=>by rw [puts,puts_defers l];rfl
theorem puts_size:∀ (l:List (Nat×Value)) (a:Act),(puts a l).tmps.size=a.tmps.size
 | [],_=>rfl
 | (d,v)::l,a=>by rw [puts,puts_size l,size_put]
theorem puts_slot {x:Act}:∀ (l:List (Nat×Value)) (a:Act),Hold x l→a.tmps.size=x.tmps.size→(∀ t,t<x.tmps.size→t ∉ l.map (·.1)→slot a t=slot x t)→∀ t,t<x.tmps.size→slot (puts a l) t=slot x t
 | [],a,_,_,h,t,ht=>h t ht (by simp)
 | (d,v)::l,a,hh,hs,h,t,ht=>by
  rw [puts]
  refine puts_slot l (a.put (some d) v) hh.2 ((size_put _ _ _).trans hs) (fun u hu hn=>?_) t ht
  by_cases e:u=d
  ·subst e
   rw [qp _ _ _ (by omega)]
   exact hh.1.symm
  ·rw [vn _ _ _ _ (fun e'=>e e'.symm)]
   exact h u hu (by simp only [List.map_cons,gh,not_or];exact ⟨e,hn⟩)
theorem jj {ops:Array Oper} {a₀ x:Act} (hF:Frm ops a₀ x) (l:List (Nat×Value)) (hd:l.map (·.1)=ops.toList.filterMap (·.dst)) (hv:Hold x l):x=puts a₀ l:=by
 have hsl:=puts_slot l a₀ hv hF.size.symm (fun t _ hn=>(hF.other t (fun o ho e=>hn (by rw [hd];exact List.mem_filterMap.2 ⟨o,ho,e⟩))).symm)
 have hsz:=(puts_size l a₀).trans hF.size.symm
 have hdf:=(puts_defers l a₀).trans hF.defers.symm
 obtain ⟨ts,dfs⟩:=x
 generalize puts a₀ l=y at *
 obtain ⟨us,efs⟩:=y
 simp only at hsz hdf
 subst hdf
 congr 1
 apply Array.ext
 ·exact hsz.symm
 ·intro i h1 h2
  have:=hsl i h1
  simp only [slot,wn,wm h1,wm h2,Option.getD_some] at this
  exact this.symm
def waitsStep (ops:Array Oper) (S:List Nat):List Nat:=S++S.flatMap fun i=>match ops[i]? with|some o=>(o.after.toList.filter fun e=>Region.binds .any e).map (·.on)|none=>[]
def waitsFor (ops:Array Oper):Nat→List Nat→List Nat
 | 0,S=>S
 | n+1,S=>waitsFor ops n (waitsStep ops S).eraseDups
def needsAll (ops:Array Oper) (m:Nat):Bool:=let S:=waitsFor ops 6 [m];(List.range ops.size).all fun i=>S.contains i
theorem y6 {ops:Array Oper} {listed:Array Bool} {m:Nat} (hc:∀ (i:Nat) (o:Oper),ops[i]?=some o→(i=m∨listed[i]?=some true)→∀ e∈o.after,Region.binds .any e=true→listed[e.on]?=some true) :
  ∀ (n:Nat) (S:List Nat),(∀ i∈S,i=m∨listed[i]?=some true)→∀ i∈waitsFor ops n S,i=m∨listed[i]?=some true
 | 0,S,h=>h
 | n+1,S,h=>by
  refine y6 hc n _ (fun i hi=>?_)
  rw [List.mem_eraseDups] at hi
  simp only [waitsStep,gi,List.mem_flatMap] at hi
  rcases hi with hi|⟨j,hj,hi⟩
  ·exact h i hi
  ·cases ho:ops[j]? with
   | none=>rw [ho] at hi;cases hi
   | some o=>
    rw [ho] at hi
    simp only [List.mem_map,List.mem_filter] at hi
    obtain ⟨e,⟨he,hb⟩,rfl⟩:=hi
    exact .inr (hc j o ho (h j hj) e (by simpa using he) hb)
theorem wp_region_tail {P:Program} {ops:Array Oper} {Q:Exit→Act→World→Prop} {id:Nat} {a₀:Act} {w:World} (hm:P.follows .mixedOrders=true) (T:World→World→Prop) (hrefl:∀ x,T x x) (htrans:∀ x y z,T x y→T y z→T x z) (hdrew:T w w.drew)
  (Post:Nat→Value→World→Prop) (hmono:∀ i v x y,Post i v x→T x y→Post i v y)
  (fit:qz ops a₀.tmps.size=true) (m:Nat) (hms:m+1=ops.size) (hneeds:needsAll ops m=true)
  (step:∀ (i:Nat) (o:Oper),i≠m→ops[i]?=some o→StepOk P ops (ops.toList.take m).toArray Q T w a₀ Post i o)
  (tail:∀ (o:Oper),ops[m]?=some o→∀ (a:Act) (w':World),T w w'→Frm (ops.toList.take m).toArray a₀ a→(∀ (i:Nat) (x:Oper),i≠m→ops[i]?=some x→Post i (left a x) w') →
   if Region.wanted o (yielded ops a.tmps) then o.wp P a w' (fun a' w''=>Q .normal a' w'') Q else Q .normal (a.put o.dst undef) w') :
  (Code.region id ops true).wp P Q a₀ w:=by
 have F:=fit_of fit
 have hfo:∀ (i:Nat) (x:Oper),i≠m→ops[i]?=some x→(ops.toList.take m).toArray[i]?=some x:=by
  intro i x hne hi
  have:=(wl.1 hi).1
  rw [List.getElem?_toArray,List.getElem?_take,if_pos (by omega)]
  simpa using hi
 refine wp_region_any hm ?_
 have key:∀ (fuel:Nat) (listed:Array Bool) (a:Act) (x:World),listed.size=ops.size→listed.toList.count false≤fuel→T w x→Frm (ops.toList.take m).toArray a₀ a→listed[m]?=some false →
   (∀ (i:Nat) (o:Oper),ops[i]?=some o→listed[i]?=some true→∀ e∈o.after,Region.binds .any e=true→listed[e.on]?=some true) →
   (∀ (i:Nat) (o:Oper),ops[i]?=some o→listed[i]?=some true→Post i (left a o) x)→wpAny P .any ops Q fuel listed a x:=by
  intro fuel
  induction fuel with
  | zero=>
   intro listed a x hsz hc hT hF hmf hcl hP
   have:false∈listed.toList:=by
    have:=gg (l:=listed.toList) (i:=m) (a:=false) (by simpa using hmf)
    exact this
   have h0:0<listed.toList.count false:=List.count_pos_iff.2 this
   omega
  | succ fuel ih=>
   intro listed a x hsz hc hT hF hmf hcl hP
   have hready:∀ i,i<ops.size→listed[i]?=some false→(∀ j,j<i→listed[j]?=some true)→i∈Region.ready .any ops listed:=by
    intro i hi hf hall
    simp only [Region.ready,List.mem_filter,List.mem_range]
    refine ⟨hi,?_⟩
    obtain ⟨o,ho⟩:∃ o,ops[i]?=some o:=⟨_,wm hi⟩
    simp only [wn,hf,ho,Option.map_some,Option.getD_some,Bool.not_false,Bool.true_and]
    rw [Array.all_eq_true_iff_forall_mem]
    intro e he
    cases hbd:Region.binds .any e with
    | false=>rfl
    | true=>
     have:=hall e.on (F.on i o e ho he hbd)
     simp [this]
   refine ⟨fun hr=>?_,fun i hi=>?_⟩
   ·exfalso
    have hall:∀ i,i<ops.size→listed[i]?=some true:=by
     intro i
     induction i using Nat.strongRecOn with
     | _ i ihi=>
      intro hi
      have hlt:i<listed.size:=by omega
      cases hb:listed[i] with
      | true=>rw [wm hlt,hb]
      | false=>
       have:=hready i hi (by rw [wm hlt,hb]) (fun j hj=>ihi j hj (by omega))
       rw [hr] at this;cases this
    rw [hall m (by omega)] at hmf
    cases hmf
   ·simp only [Region.ready,List.mem_filter,List.mem_range] at hi
    obtain ⟨hilt,hi2⟩:=hi
    obtain ⟨o,ho⟩:∃ o,ops[i]?=some o:=⟨_,wm hilt⟩
    have hil:i<listed.size:=by omega
    simp only [wn,wm hil,ho,Option.map_some,Option.getD_some,Bool.and_eq_true,Bool.not_eq_true',Array.all_eq_true_iff_forall_mem] at hi2
    obtain ⟨hib,hia⟩:=hi2
    have hdep:∀ e∈o.after,Region.binds .any e=true→listed[e.on]?=some true:=by
     intro e he hbd
     have h5:=hia e he
     have hlt:e.on<listed.size:=by have:=F.on i o e ho he hbd;omega
     rw [wm hlt] at h5 ⊢
     simpa [hbd] using h5
    by_cases him:i=m
    ·subst him
     have hothers:∀ (j:Nat),j<ops.size→j≠i→listed[j]?=some true:=by
      intro j hj hne
      have hcl':∀ (k:Nat) (y:Oper),ops[k]?=some y→(k=i∨listed[k]?=some true)→∀ e∈y.after,Region.binds .any e=true→listed[e.on]?=some true:=by
       intro k y hk hor
       rcases hor with rfl|hor
       ·obtain rfl:y=o:=by rw [ho] at hk;exact (Option.some.inj hk).symm
        exact hdep
       ·exact hcl k y hk hor
      have hmem:=y6 hcl' 6 [i] (fun k hk=>.inl (wy.1 hk))
      simp only [needsAll,List.all_eq_true,List.mem_range,List.contains_iff_mem] at hneeds
      exact (hmem j (hneeds j hj)).resolve_left hne
     have ht:=tail o ho a x hT hF (fun j y hne hj=>hP j y hj (hothers j (wl.1 hj).1 hne))
     have hend:∀ (a':Act) (x':World),Q .normal a' x'→wpAny P .any ops Q fuel (listed.setIfInBounds i true) a' x':=by
      intro a' x' hq
      have hr:Region.ready .any ops (listed.setIfInBounds i true)=[]:=by
       simp only [Region.ready,List.filter_eq_nil_iff,List.mem_range]
       intro j hj
       by_cases hji:j=i
       ·subst hji;simp [wn,hil]
       ·have:=hothers j hj hji
        simp [wn,Array.getElem?_setIfInBounds_ne (Ne.symm hji),this]
      cases fuel with
      | zero=>exact ⟨hr,hq⟩
      | succ f=>exact ⟨fun _=>hq,fun j hj=>by rw [hr] at hj;cases hj⟩
     simp only [wpOp,ho]
     split
     ·rename_i hw
      simp only [hw,if_true] at ht
      exact .inl (Oper.wp_mono hend ht)
     ·rename_i hw
      simp only [hw] at ht
      exact hend _ _ ht
    ·have hst:=step i o him ho a x hT hF (fun j y hj he=>hP j y hj (by
      obtain ⟨e,he1,he2,he3⟩:=he
      subst he2
      exact hdep e he1 he3))
     have hnew:∀ (v:Value) (x':World),T x x'→Post i (if o.dst=none then undef else v) x'→wpAny P .any ops Q fuel (listed.setIfInBounds i true) (a.put o.dst v) x':=by
      intro v x' hT' hp
      refine ih _ _ _ (by simp [hsz]) ?_ (htrans _ _ _ hT hT') (hF.put (i:=i) (hfo i o him ho) v) ?_ ?_ ?_
      ·have:=count_set listed.toList i (by simp [hil,hib])
       simp only [Array.toList_setIfInBounds]
       omega
      ·rw [Array.getElem?_setIfInBounds_ne him];exact hmf
      ·intro j y hj hlj e he hbd
       have hset:∀ k:Nat,listed[k]?=some true→(listed.setIfInBounds i true)[k]?=some true:=by
        intro k hk
        by_cases hki:k=i
        ·subst hki;simp [hil]
        ·rw [Array.getElem?_setIfInBounds_ne (Ne.symm hki)];exact hk
       by_cases hji:j=i
       ·subst hji
        obtain rfl:y=o:=by rw [ho] at hj;exact (Option.some.inj hj).symm
        exact hset _ (hdep e he hbd)
       ·rw [Array.getElem?_setIfInBounds_ne (Ne.symm hji)] at hlj
        exact hset _ (hcl j y hj hlj e he hbd)
      ·intro j y hj hlj
       by_cases hji:j=i
       ·subst hji
        obtain rfl:y=o:=by rw [ho] at hj;exact (Option.some.inj hj).symm
        cases hd:y.dst with
        | none=>simpa [left,hd] using hp
        | some d=>
         have hlt:=F.lt j y d hj hd
         simp only [left,hd]
         rw [qp _ _ _ (by rw [hF.size];exact hlt)]
         simpa [hd] using hp
       ·rw [Array.getElem?_setIfInBounds_ne (Ne.symm hji)] at hlj
        have hold:=hmono _ _ _ _ (hP j y hj hlj) hT'
        have he:left (a.put o.dst v) y=left a y:=by
         unfold left
         cases hd:y.dst with
         | none=>rfl
         | some d=>
          cases hd':o.dst with
          | none=>rfl
          | some d'=>
           simp only
           exact vn _ _ _ _ (fun e=>hji (F.own j i y o d hj ho hd (e ▸ hd')))
        rwa [he]
     simp only [wpOp,ho]
     split
     ·rename_i hw
      simp only [hw,if_true] at hst
      refine .inl (Oper.wp_mono ?_ hst)
      rintro a' x' ⟨v,rfl,hT',hp⟩
      exact hnew v x' hT' hp
     ·rename_i hw
      simp only [hw] at hst
      exact hnew undef x (hrefl x) (by split<;>exact hst)
 refine key _ _ _ _ (by simp) ?_ hdrew ⟨rfl,rfl,fun _ _=>rfl⟩ ?_ ?_ ?_
 ·simp
 ·rw [Array.getElem?_replicate,if_pos (by omega)]
 ·intro i o _ h
  rw [Array.getElem?_replicate] at h
  split at h<;>simp at h
 ·intro i o _ h
  rw [Array.getElem?_replicate] at h
  split at h<;>simp at h
theorem qa {P:Program} {ops:Array Oper} {Q:Exit→Act→World→Prop} {id:Nat} {a₀:Act} {w:World} (hm:P.follows .mixedOrders=true) (L:List MP) (fit:qz ops a₀.tmps.size=true)
  (m:Nat) (hms:m+1=ops.size) (hneeds:needsAll ops m=true) (o:Oper) (ho:ops[m]?=some o) (hgd:o.guard=none)
  (steps:StepsB P ops (ops.toList.take m).toArray Q L w a₀ 0 (ops.toList.take m))
  (tail:∀ (a:Act) (w':World),Below w.heap.size w w'→Frm (ops.toList.take m).toArray a₀ a→FinB L a w' 0 (ops.toList.take m)→o.wp P a w' (fun a' w''=>Q .normal a' w'') Q):(Code.region id ops true).wp P Q a₀ w:=by
 have F:=fit_of fit
 have htake:∀ (i:Nat) (x:Oper),i≠m→ops[i]?=some x→(ops.toList.take m)[i]?=some x:=by
  intro i x hne hi
  have:=(wl.1 hi).1
  rw [List.getElem?_take,if_pos (by omega)]
  simpa using hi
 refine wp_region_tail hm (fun x y=>Below x.heap.size x y) (fun x=>wu _ _) (fun x y z h k=>h.trans (k.mono h.size)) ((wu _ _).drew) (y7 L) (fun i v x y h k=>(L.getD i MP.any).mono v x y h k) fit m hms hneeds ?_ ?_
 ·intro i x hne hx a y hT hF hD
  have h:=stepsB_at (ops.toList.take m) 0 steps i x (htake i x hne hx)
  rw [Nat.zero_add] at h
  exact h a y hT hF (depsB_of _ (fun j z hj ⟨e,he,h1,h2⟩=>hD j z hj ⟨e,by simpa using he,h1,h2⟩) (fun e he hb=>by
   have h1:=F.on i x e hx (by simpa using he) hb
   have h2:=(wl.1 hx).1
   omega))
 ·intro x hx a w' hT hF hP
  obtain rfl:x=o:=by rw [ho] at hx;exact (Option.some.inj hx).symm
  rw [if_pos (by simp [Region.wanted,hgd])]
  refine tail a w' hT hF (finB_of _ 0 (fun i y hy=>?_))
  rw [Nat.zero_add]
  have hi:i<m:=by
   have:=(List.getElem?_eq_some_iff.1 hy).1
   rw [List.length_take] at this
   omega
  rw [List.getElem?_take,if_pos hi] at hy
  exact hP i y (by omega) (by simpa using hy)
def vp (ops:Array Oper) (m:Nat):Bool:=(List.range ops.size).all fun k=>decide (k<m) || (let S:=waitsFor ops 12 [k];(List.range k).all fun i=>S.contains i)
theorem wpAny_rest {P:Program} {ops:Array Oper} {Q:Exit→Act→World→Prop} (hon:∀ (i:Nat) (o:Oper) (e:Edge),ops[i]?=some o→e∈o.after→Region.binds .any e=true→e.on<i) (m:Nat) (hneeds:vp ops m=true) :
  ∀ (fuel j:Nat) (listed:Array Bool) (a:Act) (w:World),m≤j→j≤ops.size→ops.size≤j+fuel→listed.size=ops.size→(∀ i,i<j→listed[i]?=some true)→(∀ i,j≤i→i<ops.size→listed[i]?=some false) →
   wpList P ops Q (ops.toList.drop j) a w→wpAny P .any ops Q fuel listed a w:=by
 have hnone:∀ (listed:Array Bool),(∀ i,i<ops.size→listed[i]?=some true)→Region.ready .any ops listed=[]:=by
  intro listed h
  simp only [Region.ready,List.filter_eq_nil_iff,List.mem_range]
  intro i hi
  simp [wn,h i hi]
 intro fuel
 induction fuel with
 | zero=>
  intro j listed a w hm hj hf hsz ht hfl h
  have:j=ops.size:=by omega
  subst this
  refine ⟨hnone listed ht,?_⟩
  rw [show ops.size=ops.toList.length by simp,List.drop_length] at h
  exact h
 | succ fuel ih=>
  intro j listed a w hm hj hf hsz ht hfl h
  refine ⟨fun hr=>?_,fun i hi=>?_⟩
  ·by_cases hjs:j=ops.size
   ·subst hjs
    rw [show ops.size=ops.toList.length by simp,List.drop_length] at h
    exact h
   ·exfalso
    have hjl:j<ops.size:=by omega
    have:j∈Region.ready .any ops listed:=by
     simp only [Region.ready,List.mem_filter,List.mem_range]
     refine ⟨hjl,?_⟩
     obtain ⟨o,ho⟩:∃ o,ops[j]?=some o:=⟨_,wm hjl⟩
     simp only [wn,hfl j (wo _) hjl,ho,Option.map_some,Option.getD_some,Bool.not_false,Bool.true_and]
     rw [Array.all_eq_true_iff_forall_mem]
     intro e he
     cases hbd:Region.binds .any e with
     | false=>rfl
     | true=>
      have:=ht e.on (hon j o e ho he hbd)
      simp [this]
    rw [hr] at this;cases this
  ·simp only [Region.ready,List.mem_filter,List.mem_range] at hi
   obtain ⟨hilt,hi2⟩:=hi
   obtain ⟨o,ho⟩:∃ o,ops[i]?=some o:=⟨_,wm hilt⟩
   have hil:i<listed.size:=by omega
   simp only [wn,wm hil,ho,Option.map_some,Option.getD_some,Bool.and_eq_true,Bool.not_eq_true',Array.all_eq_true_iff_forall_mem] at hi2
   obtain ⟨hib,hia⟩:=hi2
   have hij:j≤i:=by
    rcases Nat.lt_or_ge i j with hlt|hge
    ·have:=ht i hlt
     rw [wm hil,hib] at this;cases this
    ·exact hge
   have hdep:∀ e∈o.after,Region.binds .any e=true→listed[e.on]?=some true:=by
    intro e he hbd
    have h5:=hia e he
    have hlt:e.on<listed.size:=by have:=hon i o e ho he hbd;omega
    rw [wm hlt] at h5 ⊢
    simpa [hbd] using h5
   obtain rfl:i=j:=by
    by_cases hne:i=j
    ·exact hne
    ·exfalso
     have hcl:∀ (k:Nat) (y:Oper),ops[k]?=some y→(k=i∨listed[k]?=some true)→∀ e∈y.after,Region.binds .any e=true→listed[e.on]?=some true:=by
      intro k y hk hor e he hbd
      rcases hor with rfl|hor
      ·obtain rfl:y=o:=by rw [ho] at hk;exact (Option.some.inj hk).symm
       exact hdep e he hbd
      ·have hkj:k<j:=by
        rcases Nat.lt_or_ge k j with hlt|hge
        ·exact hlt
        ·have:=hfl k hge (wl.1 hk).1
         rw [this] at hor;cases hor
       exact ht e.on (by have:=hon k y e hk he hbd;omega)
     have hmem:=y6 hcl 12 [i] (fun k hk=>.inl (wy.1 hk))
     simp only [vp,List.all_eq_true,List.mem_range,Bool.or_eq_true,decide_eq_true_eq,List.contains_iff_mem] at hneeds
     have h6:=((hneeds i hilt).resolve_left (by omega)) j (by omega)
     have h7:=(hmem j h6).resolve_left (fun e=>hne e.symm)
     rw [hfl j (wo _) (by omega)] at h7;cases h7
   have hdrop:ops.toList.drop i=o::ops.toList.drop (i+1):=by
    have hil':i<ops.toList.length:=by simpa using hilt
    rw [List.drop_eq_getElem_cons hil']
    congr 1
    rw [wm hilt] at ho
    simpa using Option.some.inj ho
   rw [hdrop,wpList] at h
   have hnext:∀ (a':Act) (w':World),wpList P ops Q (ops.toList.drop (i+1)) a' w'→wpAny P .any ops Q fuel (listed.setIfInBounds i true) a' w':=by
    intro a' w' h'
    refine ih (i+1) _ a' w' (by omega) (by omega) (by omega) (by simp [hsz]) (fun k hk=>?_) (fun k hk hk2=>?_) h'
    ·by_cases hki:k=i
     ·subst hki;simp [hil]
     ·rw [Array.getElem?_setIfInBounds_ne (Ne.symm hki)];exact ht k (by omega)
    ·rw [Array.getElem?_setIfInBounds_ne (by omega)];exact hfl k (by omega) hk2
   simp only [wpOp,ho]
   split
   ·rename_i hw
    simp only [hw,if_true] at h
    exact h.imp (Oper.wp_mono hnext) id
   ·rename_i hw
    simp only [hw] at h
    exact hnext _ _ h
theorem wp_region_rest {P:Program} {ops:Array Oper} {Q:Exit→Act→World→Prop} {id:Nat} {a₀:Act} {w:World} (hm:P.follows .mixedOrders=true) (T:World→World→Prop) (hrefl:∀ x,T x x) (htrans:∀ x y z,T x y→T y z→T x z) (hdrew:T w w.drew)
  (Post:Nat→Value→World→Prop) (hmono:∀ i v x y,Post i v x→T x y→Post i v y)
  (fit:qz ops a₀.tmps.size=true) (m:Nat) (hms:m<ops.size) (hneeds:vp ops m=true)
  (step:∀ (i:Nat) (o:Oper),i<m→ops[i]?=some o→StepOk P ops (ops.toList.take m).toArray Q T w a₀ Post i o)
  (tail:∀ (a:Act) (w':World),T w w'→Frm (ops.toList.take m).toArray a₀ a→(∀ (i:Nat) (x:Oper),i<m→ops[i]?=some x→Post i (left a x) w')→wpList P ops Q (ops.toList.drop m) a w') :
  (Code.region id ops true).wp P Q a₀ w:=by
 have F:=fit_of fit
 have hfo:∀ (i:Nat) (x:Oper),i<m→ops[i]?=some x→(ops.toList.take m).toArray[i]?=some x:=by
  intro i x hne hi
  have:=(wl.1 hi).1
  rw [List.getElem?_toArray,List.getElem?_take,if_pos (by omega)]
  simpa using hi
 refine wp_region_any hm ?_
 have key:∀ (fuel:Nat) (listed:Array Bool) (a:Act) (x:World),listed.size=ops.size→listed.toList.count false≤fuel→ops.size - m≤fuel→T w x→Frm (ops.toList.take m).toArray a₀ a→(∀ i,m≤i→i<ops.size→listed[i]?=some false) →
   (∀ (i:Nat) (o:Oper),ops[i]?=some o→listed[i]?=some true→∀ e∈o.after,Region.binds .any e=true→listed[e.on]?=some true) →
   (∀ (i:Nat) (o:Oper),ops[i]?=some o→listed[i]?=some true→Post i (left a o) x)→wpAny P .any ops Q fuel listed a x:=by
  intro fuel
  induction fuel with
  | zero=>intro listed a x hsz hc hfu;omega
  | succ fuel ih=>
   intro listed a x hsz hc hfu hT hF hmf hcl hP
   by_cases hall:∀ i,i<m→listed[i]?=some true
   ·exact wpAny_rest F.on m hneeds (fuel+1) m listed a x (wo _) (by omega) (by omega) hsz hall hmf (tail a x hT hF (fun i y hi hy=>hP i y hy (hall i hi)))
   have hready:∀ i,i<ops.size→listed[i]?=some false→(∀ j,j<i→listed[j]?=some true)→i∈Region.ready .any ops listed:=by
    intro i hi hf hall
    simp only [Region.ready,List.mem_filter,List.mem_range]
    refine ⟨hi,?_⟩
    obtain ⟨o,ho⟩:∃ o,ops[i]?=some o:=⟨_,wm hi⟩
    simp only [wn,hf,ho,Option.map_some,Option.getD_some,Bool.not_false,Bool.true_and]
    rw [Array.all_eq_true_iff_forall_mem]
    intro e he
    cases hbd:Region.binds .any e with
    | false=>rfl
    | true=>
     have:=hall e.on (F.on i o e ho he hbd)
     simp [this]
   refine ⟨fun hr=>?_,fun i hi=>?_⟩
   ·exfalso
    refine hall fun i=>?_
    induction i using Nat.strongRecOn with
    | _ i ihi=>
     intro hi
     have hlt:i<listed.size:=by omega
     cases hb:listed[i] with
     | true=>rw [wm hlt,hb]
     | false=>
      have:=hready i (by omega) (by rw [wm hlt,hb]) (fun j hj=>ihi j hj (by omega))
      rw [hr] at this;cases this
   ·simp only [Region.ready,List.mem_filter,List.mem_range] at hi
    obtain ⟨hilt,hi2⟩:=hi
    obtain ⟨o,ho⟩:∃ o,ops[i]?=some o:=⟨_,wm hilt⟩
    have hil:i<listed.size:=by omega
    simp only [wn,wm hil,ho,Option.map_some,Option.getD_some,Bool.and_eq_true,Bool.not_eq_true',Array.all_eq_true_iff_forall_mem] at hi2
    obtain ⟨hib,hia⟩:=hi2
    have hdep:∀ e∈o.after,Region.binds .any e=true→listed[e.on]?=some true:=by
     intro e he hbd
     have h5:=hia e he
     have hlt:e.on<listed.size:=by have:=F.on i o e ho he hbd;omega
     rw [wm hlt] at h5 ⊢
     simpa [hbd] using h5
    have him:i<m:=by
     rcases Nat.lt_or_ge i m with h|h
     ·exact h
     ·exfalso
      refine hall fun k hk=>?_
      have hcl':∀ (k:Nat) (y:Oper),ops[k]?=some y→(k=i∨listed[k]?=some true)→∀ e∈y.after,Region.binds .any e=true→listed[e.on]?=some true:=by
       intro k y hk hor
       rcases hor with rfl|hor
       ·obtain rfl:y=o:=by rw [ho] at hk;exact (Option.some.inj hk).symm
        exact hdep
       ·exact hcl k y hk hor
      have hmem:=y6 hcl' 12 [i] (fun k hk=>.inl (wy.1 hk))
      simp only [vp,List.all_eq_true,List.mem_range,Bool.or_eq_true,decide_eq_true_eq,List.contains_iff_mem] at hneeds
      have h6:=((hneeds i hilt).resolve_left (by omega)) k (by omega)
      exact (hmem k h6).resolve_left (by omega)
    have hst:=step i o him ho a x hT hF (fun j y hj he=>hP j y hj (by
     obtain ⟨e,he1,he2,he3⟩:=he
     subst he2
     exact hdep e he1 he3))
    have hcount:(listed.setIfInBounds i true).toList.count false≤fuel:=by
     have:=count_set listed.toList i (by simp [hil,hib])
     simp only [Array.toList_setIfInBounds]
     omega
    have hfu2:ops.size - m≤fuel:=by
     have h1:(listed.setIfInBounds i true).toList.drop m=List.replicate (ops.size - m) false:=by
      apply List.ext_getElem?
      intro k
      rw [List.getElem?_drop,List.getElem?_replicate]
      by_cases hk:k<ops.size - m
      ·rw [if_pos hk]
       have:=hmf (m+k) (by omega) (by omega)
       rw [Array.getElem?_toList,Array.getElem?_setIfInBounds_ne (by omega)]
       exact this
      ·rw [if_neg hk]
       apply List.getElem?_eq_none
       simp [hsz];omega
     have h2:=List.take_append_drop m (listed.setIfInBounds i true).toList
     have h3:((listed.setIfInBounds i true).toList.take m++(listed.setIfInBounds i true).toList.drop m).count false=(listed.setIfInBounds i true).toList.count false:=by rw [h2]
     rw [List.count_append,h1,List.count_replicate] at h3
     simp at h3
     simp only [Array.toList_setIfInBounds] at hcount
     omega
    have hnew:∀ (v:Value) (x':World),T x x'→Post i (if o.dst=none then undef else v) x'→wpAny P .any ops Q fuel (listed.setIfInBounds i true) (a.put o.dst v) x':=by
     intro v x' hT' hp
     refine ih _ _ _ (by simp [hsz]) hcount hfu2 (htrans _ _ _ hT hT') (hF.put (i:=i) (hfo i o him ho) v) ?_ ?_ ?_
     ·intro k hk hk2
      rw [Array.getElem?_setIfInBounds_ne (by omega)];exact hmf k hk hk2
     ·intro j y hj hlj e he hbd
      have hset:∀ k:Nat,listed[k]?=some true→(listed.setIfInBounds i true)[k]?=some true:=by
       intro k hk
       by_cases hki:k=i
       ·subst hki;simp [hil]
       ·rw [Array.getElem?_setIfInBounds_ne (Ne.symm hki)];exact hk
      by_cases hji:j=i
      ·subst hji
       obtain rfl:y=o:=by rw [ho] at hj;exact (Option.some.inj hj).symm
       exact hset _ (hdep e he hbd)
      ·rw [Array.getElem?_setIfInBounds_ne (Ne.symm hji)] at hlj
       exact hset _ (hcl j y hj hlj e he hbd)
     ·intro j y hj hlj
      by_cases hji:j=i
      ·subst hji
       obtain rfl:y=o:=by rw [ho] at hj;exact (Option.some.inj hj).symm
       cases hd:y.dst with
       | none=>simpa [left,hd] using hp
       | some d=>
        have hlt:=F.lt j y d hj hd
        simp only [left,hd]
        rw [qp _ _ _ (by rw [hF.size];exact hlt)]
        simpa [hd] using hp
      ·rw [Array.getElem?_setIfInBounds_ne (Ne.symm hji)] at hlj
       have hold:=hmono _ _ _ _ (hP j y hj hlj) hT'
       have he:left (a.put o.dst v) y=left a y:=by
        unfold left
        cases hd:y.dst with
        | none=>rfl
        | some d=>
         cases hd':o.dst with
         | none=>rfl
         | some d'=>
          simp only
          exact vn _ _ _ _ (fun e=>hji (F.own j i y o d hj ho hd (e ▸ hd')))
       rwa [he]
    simp only [wpOp,ho]
    split
    ·rename_i hw
     simp only [hw,if_true] at hst
     refine .inl (Oper.wp_mono ?_ hst)
     rintro a' x' ⟨v,rfl,hT',hp⟩
     exact hnew v x' hT' hp
    ·rename_i hw
     simp only [hw] at hst
     exact hnew undef x (hrefl x) (by split<;>exact hst)
 refine key _ _ _ _ (by simp) ?_ ?_ hdrew ⟨rfl,rfl,fun _ _=>rfl⟩ ?_ ?_ ?_
 ·simp
 ·omega
 ·intro i hi hi2
  rw [Array.getElem?_replicate,if_pos hi2]
 ·intro i o _ h
  rw [Array.getElem?_replicate] at h
  split at h<;>simp at h
 ·intro i o _ h
  rw [Array.getElem?_replicate] at h
  split at h<;>simp at h
theorem je {P:Program} {ops:Array Oper} {Q:Exit→Act→World→Prop} {id:Nat} {a₀:Act} {w:World} (hm:P.follows .mixedOrders=true) (L:List MP) (fit:qz ops a₀.tmps.size=true)
  (m:Nat) (hms:m<ops.size) (hneeds:vp ops m=true) (rest:List Oper) (hrest:ops.toList.drop m=rest)
  (steps:StepsB P ops (ops.toList.take m).toArray Q L w a₀ 0 (ops.toList.take m))
  (tail:∀ (a:Act) (w':World),Below w.heap.size w w'→Frm (ops.toList.take m).toArray a₀ a→FinB L a w' 0 (ops.toList.take m)→wpList P ops Q rest a w'):(Code.region id ops true).wp P Q a₀ w:=by
 have F:=fit_of fit
 have htake:∀ (i:Nat) (x:Oper),i<m→ops[i]?=some x→(ops.toList.take m)[i]?=some x:=by
  intro i x hne hi
  rw [List.getElem?_take,if_pos hne]
  simpa using hi
 refine wp_region_rest hm (fun x y=>Below x.heap.size x y) (fun x=>wu _ _) (fun x y z h k=>h.trans (k.mono h.size)) ((wu _ _).drew) (y7 L) (fun i v x y h k=>(L.getD i MP.any).mono v x y h k) fit m hms hneeds ?_ ?_
 ·intro i x hne hx a y hT hF hD
  have h:=stepsB_at (ops.toList.take m) 0 steps i x (htake i x hne hx)
  rw [Nat.zero_add] at h
  exact h a y hT hF (depsB_of _ (fun j z hj ⟨e,he,h1,h2⟩=>hD j z hj ⟨e,by simpa using he,h1,h2⟩) (fun e he hb=>by
   have h1:=F.on i x e hx (by simpa using he) hb
   have h2:=(wl.1 hx).1
   omega))
 ·intro a w' hT hF hP
  rw [hrest]
  refine tail a w' hT hF (finB_of _ 0 (fun i y hy=>?_))
  rw [Nat.zero_add]
  have hi:i<m:=by
   have:=(List.getElem?_eq_some_iff.1 hy).1
   rw [List.length_take] at this
   omega
  rw [List.getElem?_take,if_pos hi] at hy
  exact hP i y hi (by simpa using hy)
end
section
open Go.RowKit
def wrongT:PanicEntry:={ v:=.iface 173 (.agg #[]),recovered:=false }
def Ret (w:World) (v:Value) (e:Ending) (w':World):Prop:=e=.returned v∧Below w.heap.size w w'
def qe (w:World) (o:Option Txt) (e:Ending) (w':World):Prop:=
 Below w.heap.size w w'∧(match o with|some t=>e=.returned (.string (S t))|none=>e=.panicked [wrongT])
theorem j7 (w:World):Calls Tryz.prog 135 #[.bool true] w fun e w'=>e=.returned (.tuple #[])∧w=w':=by
 go_enter Tryz.func135,Tryz.ntmps135
 go_wp2
 go_end0
 exact ⟨rfl,rfl⟩
theorem zc (w:World):Calls Tryz.prog 135 #[.bool false] w fun e w'=>e=.panicked [wrongT]∧w=w':=by
 go_enter Tryz.func135,Tryz.ntmps135
 go_wp2
 exact ⟨rfl,rfl,rfl⟩
def opCells:Array Value:=
 #[.string (S [97,100,100]),.int .i64 0,.string (S [115,117,98]),.int .i64 1,.string (S [115,104,108]),.int .i64 2,.string (S [115,108,116]),.int .i64 3,
  .string (S [115,108,116,117]),.int .i64 4,.string (S [120,111,114]),.int .i64 5,.string (S [115,104,114]),.int .i64 6,.string (S [115,97,114]),.int .i64 7,
  .string (S [111,114]),.int .i64 8,.string (S [97,110,100]),.int .i64 9,.string (S [109,117,108]),.int .i64 10,.string (S [100,105,118,117]),.int .i64 13,
  .string (S [114,101,109,117]),.int .i64 15]
theorem ops_any (w:World):Calls Tryz.prog 210 #[] w fun e w'=>
  e=.returned (.slice (some ⟨w.heap.size,0,none⟩) 13 13)∧w'=w.alloc (.cells opCells 235):=by
 go_enter Tryz.func210,Tryz.ntmps210
 go_wp2
 go_ret
 exact ⟨rfl,rfl⟩
theorem opName1_any (s:ByteArray) (k n:Int) (b:Nat) (w:World) (hk:0≤k) (hk':k≤63) (hc:w.cell? ⟨b,0,none⟩=some (.int .u64 n)) :
  Calls Tryz.prog 211 #[.agg #[.string s,.int .i64 k],.pointer (some ⟨b,0,none⟩)] w (Ret w (.bool (k == n))):=by
 have hb:b<w.heap.size:=k9 w _ hc
 go_enter Tryz.func211,Tryz.ntmps211
 go_wp2
 go_ret
 exact ⟨rfl,(wu _ _).alloc (wo _) _⟩
end
section
open Go.RowKit Go.Sort
structure Glob (w:World):Prop where
 pow:∀ w',Below w.heap.size w w'→Lib.TabIs Tryz.prog w' "internal/strconv.uint64pow10" .u64 Lib.pow10Tab
 utf:∀ w',Below w.heap.size w w'→Lib.Utf8Tabs 2 3 w'
theorem Glob.below {w w1:World} (h:Glob w) (hb:Below w.heap.size w w1):Glob w1:=
 ⟨fun w' h'=>h.pow w' (hb.trans (h'.mono hb.size)),fun w' h'=>h.utf w' (hb.trans (h'.mono hb.size))⟩
theorem Glob.alloc {w:World} (h:Glob w) (o:Obj):Glob (w.alloc o):=h.below ((wu _ _).alloc (wo _) _)
theorem formatSmall (u:Nat) (h:u<100) (w:World):Calls Tryz.prog 196 #[.int .u64 u,.int .i64 10] w (Ret w (.string (S (Lib.decDigits u)))):=by
 go_enter Tryz.func196,Tryz.ntmps196
 go_wp2_with fail
 refine (Tryz.internal_strconv_small u h _).mono ?_
 rintro e w' ⟨rfl,rfl⟩
 go_wp2
 go_ret
 exact ⟨rfl,wu _ _⟩
theorem below_grow (w:World) (k:Nat) (os:Array Obj):Below w.heap.size w (grow (w.drewN k) os):=by
 have h:∀ i,i<w.heap.size→(grow (w.drewN k) os).heap[i]?=w.heap[i]?:=fun i hi=>Lib.heap_grow_old w k os i hi
 exact ⟨rfl,rfl,rfl,by simp [grow],h⟩
theorem formatBig (u:Nat) (h:¬ u<100) (hu64:u<18446744073709551616) (w:World) (hg:Glob w) :
  Calls Tryz.prog 196 #[.int .u64 u,.int .i64 10] w (Ret w (.string (S (Lib.decDigits u)))):=by
 have hu1:1≤u:=by omega
 have hnd20:Lib.nDigits u≤20:=by have:=Lib.numDigits_eq u hu1 hu64;split at this<;>omega
 have hal:Tryz.prog.arrayLen 227=24:=by kernel_rfl
 have hsl1:∀ W,(Instr.sliceAt 227 (.pointer (some ⟨w.heap.size,0,none⟩)) none (some (.int .i64 (Lib.nDigits u:Int))) none).run Tryz.prog W=.ok (.slice (some ⟨w.heap.size,0,none⟩) (Lib.nDigits u) 24) W:=fun W=>by
  rw [run_sliceAt_array_h W 227 ⟨w.heap.size,0,none⟩ (by kernel_rfl) .i64 (Lib.nDigits u:Int) (by omega) (by rw [hal];omega)]
  go_simp
 have hH0:=Lib.holds_zero0 w 227 (Lib.nDigits u) (by omega)
 have hfmt:=Tryz.internal_strconv_formatBase10 w.heap.size 0 24 u (Array.replicate (Lib.nDigits u) 0) (w.alloc (.cells Lib.zeros24 227)) hH0 (by rw [Array.size_replicate];exact Lib.lt_pow_nDigits u) hu64 (by rw [Array.size_replicate];omega)
 rw [Array.size_replicate] at hfmt
 have HH0:=k8 hH0
 have htab:=hg.pow _ ((wu _ w).alloc (wo _) (.cells Lib.zeros24 227))
 have HT:=k8 htab
 clear htab hH0 hal hg
 have hu100:¬ (u:Int)<100:=by omega
 go_enter Tryz.func196,Tryz.ntmps196
 go_wp2_with fail
 refine (Tryz.internal_strconv_numDigits u hu1 hu64 _ HT.out).mono ?_
 rintro e w' ⟨rfl,rfl⟩
 go_wp2_with fail
 refine hfmt.mono ?_
 rintro e w' ⟨rfl,k,v',dk,rfl,hF⟩
 have hcv:(convert 188 9 (.slice (some ⟨w.heap.size,0,none⟩) (Lib.nDigits u) 24)).run Tryz.prog ((putRow (fun (b:UInt8)=>Value.int .u8 (b.toNat:Int)) (w.alloc (.cells Lib.zeros24 227)) w.heap.size 0 dk).drewN k)=.ok (.string ⟨(Lib.decDigits u).toArray⟩) ((putRow (fun (b:UInt8)=>Value.int .u8 (b.toNat:Int)) (w.alloc (.cells Lib.zeros24 227)) w.heap.size 0 dk).drewN k):=by
  have h:=run_convert_bytes_back (P:=Tryz.prog) ((putRow (fun (b:UInt8)=>Value.int .u8 (b.toNat:Int)) (w.alloc (.cells Lib.zeros24 227)) w.heap.size 0 dk).drewN k) 188 9 5 ⟨w.heap.size,0,none⟩ 24 (Lib.decDigits u) Tryz.underlying188 Tryz.underlying5 Tryz.underlying9 (fun j hj=>by
   rw [Lib.row_is_numeral hF j hj,Lib.add_plain,World.cell?_drewN]
   exact cell?_putRow (fun (b:UInt8)=>Value.int .u8 (b.toNat:Int)) _ w.heap.size 0 _ dk HH0.out (by rw [hF.size,Array.size_replicate]) j (by rw [hF.size];rw [Lib.decDigits_length] at hj;exact hj))
  rw [Lib.decDigits_length] at h
  exact h
 obtain ⟨os,eo⟩:=Lib.fin_at w (.cells Lib.zeros24 227) dk k 0
 have HB:Hid (Below w.heap.size w ((putRow (fun (b:UInt8)=>Value.int .u8 (b.toNat:Int)) (w.alloc (.cells Lib.zeros24 227)) w.heap.size 0 dk).drewN k)):=by
  rw [eo]
  exact below_grow w k os
 clear eo
 go_wp2
 go_ret
 exact ⟨rfl,HB.out⟩
theorem digits_any (n:Int) (h0:0≤n) (h1:n<18446744073709551616) (w:World) (hg:Glob w) :
  Calls Tryz.prog 172 #[.int .u64 n] w (Ret w (.string (S (Lib.decDigits n.toNat)))):=by
 obtain ⟨u,rfl⟩:∃ u:Nat,n=u:=⟨n.toNat,by omega⟩
 have hf:Calls Tryz.prog 196 #[.int .u64 u,.int .i64 10] w (Ret w (.string (S (Lib.decDigits u)))):=by
  by_cases h:u<100
  ·exact formatSmall u h w
  ·exact formatBig u h (by omega) w hg
 have HF:=k8 hf
 clear hf h0 h1 hg
 have hp:Calls Tryz.prog 186 #[.int .u64 u,.int .i64 10] w (Ret w (.string (S (Lib.decDigits u)))):=by
  go_enter Tryz.func186,Tryz.ntmps186
  go_wp2_with fail
  refine HF.out.mono ?_
  rintro e w' ⟨rfl,hB⟩
  have HB:=k8 hB
  clear hB
  go_wp2
  go_ret
  exact ⟨rfl,HB.out⟩
 have HP:=k8 hp
 clear hp HF
 go_enter Tryz.func172,Tryz.ntmps172
 go_wp2_with fail
 refine HP.out.mono ?_
 rintro e w' ⟨rfl,hB⟩
 have HB:=k8 hB
 clear hB
 go_wp2
 go_ret
 exact ⟨rfl,HB.out⟩
end
section
open Go.RowKit
theorem grown_of {w w1:World} (h:Below w.heap.size w w1) (row:Option Nat):w.grownBy w1 row:=⟨h.os,h.tape,h.output,h.size,fun i hi _=>h.block i hi⟩
theorem jv {w w1:World} {base:Nat} {e:TypeId} {size n:Nat} {v:Value} {xs:List Value} (h:w.ownsRow base e size v n xs) (hb:Below w.heap.size w w1):w1.ownsRow base e size v n xs:=
 h.kept (grown_of hb none) (by cases v.ownBlock<;>simp)
theorem ks {w:World} {base:Nat} {e:TypeId} {size n:Nat} {v:Value} {xs:List Value} (h:w.ownsRow base e size v n xs) (k:Nat) (hk:v.ownBlock=some k):base≤k:=by
 rcases h.2 with ⟨rfl,_⟩|⟨g,cap,cur,rfl,hb,_⟩
 ·simp [Value.ownBlock] at hk
 ·have:g=k:=by simpa [Value.ownBlock] using hk
  omega
theorem j6 {B:Nat} {w w1 w2:World} {base:Nat} {e:TypeId} {size n:Nat} {v:Value} {xs:List Value} (h:Below B w w1) (ho:w1.ownsRow base e size v n xs) (hb:B≤base) (hB:B≤w1.heap.size) (hg:w1.grownBy w2 v.ownBlock):Below B w w2:=
 h.grown hg hB (fun k hk=>wx hb (ks ho k hk))
theorem jg {B:Nat} {w w1 w2:World} (h:Below B w w1) (hB:B≤w1.heap.size) (k:Below w1.heap.size w1 w2):Below B w w2:=h.trans (k.mono hB)
theorem grown_trans {a w w':World} {row:Option Nat} (h:a.grownBy w row) (k:w.grownBy w' row):a.grownBy w' row:=
 ⟨k.os.trans h.os,k.tape.trans h.tape,k.output.trans h.output,wx h.size k.size,fun i hi hn=>(k.block i (Nat.lt_of_lt_of_le hi h.size) hn).trans (h.block i hi hn)⟩
section
variable {P:Program} {ops:Array Oper} {rest:List Oper} {o:Oper} {a:Act} {Q:Exit→Act→World→Prop}
theorem ke (W:World) (hgd:o.guard=none) (s x:Operand) (t e:TypeId) (z:Value) (bytes:Nat)
  (ho:o.op=.call { callee:=.builtin .append,args:=#[s,x],argTypes:=#[t,t] })
  (ht:P.underlying t=some (.slice e)) (hinfo:(P.info? e).map (fun i=>(i.zero,i.size,i.bytes))=some (some z,1,bytes)) (hz:z.cells.size=1)
  (base n:Nat) (v:Value) (xs:List Value) (y:Value) (hs:a.eval s=v) (k:Nat) (hx:a.eval x=.slice (some ⟨k,0,none⟩) 1 1) (hk:k=W.heap.size) (h1:y.oneCell'=true)
  (HO:W.ownsRow base e 1 v n xs) (hbase:base≤W.heap.size) (hn:n+1≤1000000000) (hl:bytes≤1000)
  (h:∀ v1 w1,w1.ownsRow base e 1 v1 (n+1) (xs++[y])→W.grownBy w1 v.ownBlock→wpList P ops Q rest (a.put o.dst v1) w1) :
  wpList P ops Q (o::rest) a (W.alloc (.cells #[y] e)):=by
 subst hk
 obtain ⟨i0,hi,hzz⟩:=Option.map_eq_some_iff.1 hinfo
 simp only [Prod.mk.injEq] at hzz
 obtain ⟨hz0,hz1,hz2⟩:=hzz
 refine wpList_append_own (W.alloc (.cells #[y] e)) hgd s x t ho base e i0 z 1 bytes ht hi hz0 hz1 hz2 hz (by omega) v n xs hs (HO.alloc _) ⟨W.heap.size,0,none⟩ 1 1 [y] hx rfl
  (World.news_of_block (cs:=#[y]) (t:=e) (fr:=(0,0)) (heap_alloc_new W _)) (by simpa using h1) (by simp only [maxLen];omega) ?_ (by simp;omega) ?_
 ·have:=Nat.mul_le_mul hn hl
  omega
 ·intro v1 w1 hown hg _
  exact h v1 w1 hown (grown_trans (World.grownBy_alloc W _ _) hg)
theorem yj (W:World) (hgd:o.guard=none) (s x:Operand) (t e:TypeId) (z:Value) (bytes:Nat)
  (ho:o.op=.call { callee:=.builtin .append,args:=#[s,x],argTypes:=#[t,t] })
  (ht:P.underlying t=some (.slice e)) (hinfo:(P.info? e).map (fun i=>(i.zero,i.size,i.bytes))=some (some z,1,bytes)) (hz:z.cells.size=1)
  (base base2 n m:Nat) (v v2:Value) (xs news:List Value) (hs:a.eval s=v) (hx:a.eval x=v2)
  (HO:W.ownsRow base e 1 v n xs) (HS:W.ownsRow base2 e 1 v2 m news) (h1:∀ u∈news,u.oneCell'=true) (hbase:base≤W.heap.size) (hn:n+m≤1000000000) (hl:bytes≤1000)
  (h:∀ v1 w1,w1.ownsRow base e 1 v1 (n+m) (xs++news)→W.grownBy w1 v.ownBlock→wpList P ops Q rest (a.put o.dst v1) w1) :
  wpList P ops Q (o::rest) a W:=by
 obtain ⟨i0,hi,hzz⟩:=Option.map_eq_some_iff.1 hinfo
 simp only [Prod.mk.injEq] at hzz
 obtain ⟨hz0,hz1,hz2⟩:=hzz
 have hS:=HS
 rcases HS.2 with ⟨rfl,rfl⟩|⟨g,cap,cur,rfl,_⟩
 ·have hnil:news=[]:=List.eq_nil_of_length_eq_zero (by simpa using HS.1)
  subst hnil
  exact wpList_append_own_none hgd s x t ho base e i0 1 ht hi v n xs hs HO hx (h v W (by simpa using HO) ⟨rfl,rfl,rfl,wo _,fun _ _ _=>rfl⟩)
 ·refine wpList_append_own W hgd s x t ho base e i0 z 1 bytes ht hi hz0 hz1 hz2 hz (by omega) v n xs hs HO ⟨g,0,none⟩ m cap news hx (by simpa using HS.1) (fun j u hj=>hS.cells (g:=g) rfl j u hj) h1 (by simp only [maxLen];omega) ?_ hbase (fun v1 w1 ho hg _=>h v1 w1 ho hg)
  have:=Nat.mul_le_mul hn hl
  omega
end
theorem yk {w:World} {base base':Nat} {e:TypeId} {size n:Nat} {v:Value} {xs:List Value} (h:w.ownsRow base e size v n xs) (hb:base'≤base):w.ownsRow base' e size v n xs:=by
 obtain ⟨h1,h2⟩:=h
 refine ⟨h1,?_⟩
 rcases h2 with h2|⟨g,cap,cur,hv,hg,r⟩
 ·exact .inl h2
 ·exact .inr ⟨g,cap,cur,hv,by omega,r⟩
end
section
open Go.RowKit
def World.stepped (w:World) (B:Nat) (s:ByteArray) (pos:Nat):World:={ w with heap:=w.heap.setIfInBounds B (.stringIter s pos) }
theorem next_more {P:Program} (w:World) (B:Nat) (s:ByteArray) (pos:Nat) (ty:TypeId) (hB:w.heap[B]?=some (.stringIter s pos)) (h:pos<s.size) :
  (Instr.next (.pointer (some ⟨B,0,none⟩)) true ty).run P w=.ok (.tuple #[.bool true,.int .i64 pos,.int .i32 (Utf8.decode s pos).1]) (World.stepped w B s (pos+(Utf8.decode s pos).2)):=by
 simp only [Instr.next,getObj,setObj,Sem.run_bind,Sem.run,hB,Result.andThen,h,if_true]
 simp [goInt,World.stepped]
theorem next_over {P:Program} (w:World) (B:Nat) (s:ByteArray) (pos:Nat) (ty:TypeId) (hB:w.heap[B]?=some (.stringIter s pos)) (h:¬ pos<s.size) :
  (Instr.next (.pointer (some ⟨B,0,none⟩)) true ty).run P w=.ok (.tuple #[.bool false]) w:=by
 simp [Instr.next,getObj,Sem.run,hB,h]
theorem stepped_at (w:World) (B:Nat) (s:ByteArray) (pos:Nat) (h:B<w.heap.size):(World.stepped w B s pos).heap[B]?=some (.stringIter s pos):=by
 simp [World.stepped,h]
theorem stepped_other (w:World) (B k:Nat) (s:ByteArray) (pos:Nat) (h:k≠B):(World.stepped w B s pos).heap[k]?=w.heap[k]?:=by
 simp [World.stepped,Array.getElem?_setIfInBounds_ne (Ne.symm h)]
theorem stepped_size (w:World) (B:Nat) (s:ByteArray) (pos:Nat):(World.stepped w B s pos).heap.size=w.heap.size:=by
 simp [World.stepped]
theorem below_stepped {b:Nat} {a w:World} (h:Below b a w) (B:Nat) (s:ByteArray) (pos:Nat) (hB:b≤B):Below b a (World.stepped w B s pos):=
 ⟨h.os,h.tape,h.output,by rw [stepped_size];exact h.size,fun k hk=>by rw [stepped_other _ _ _ _ _ (by omega)];exact h.block k hk⟩
theorem ku (w:World) (B:Nat) (s:ByteArray) (pos:Nat) (h:B<w.heap.size):(World.stepped w B s pos).iterPos B=pos:=by
 simp [World.iterPos,stepped_at w B s pos h]
def z6:Txt:=[97,98,99,100,101,102,103,104,105,106,107,108,109,110,111,112,113,114,115,116,117,118,119,120,121,122,95,48,49,50,51,52,53,54,55,56,57]
def inSet (r:Nat):Bool:=z6.any fun c=>c.toNat == r
theorem inSet_high (r:Nat) (h:128≤r):inSet r=false:=by
 simp only [inSet,List.any_eq_false,beq_iff_eq]
 intro c hc e
 have:=(show ∀ c∈z6,c.toNat<128 from by decide) c hc
 omega
theorem inSet_byte (c:UInt8):inSet c.toNat=(xd c || digit c):=by
 have h:∀ n:Fin 256,inSet n.val=(xd (UInt8.ofNat n.val) || digit (UInt8.ofNat n.val)):=by decide +kernel
 have:=h ⟨c.toNat,c.toNat_lt⟩
 simpa using this
def cutFrom (s:ByteArray) (k:Nat):Prop:=∀ j (h:j<s.size),j<k→(xd s[j] || digit s[j])=true
theorem cutFrom_succ {s:ByteArray} {k:Nat} (h:cutFrom s k) (hk:k<s.size) (hc:(xd s[k] || digit s[k])=true):cutFrom s (k+1):=by
 intro j hj hjk
 by_cases e:j=k
 ·subst e;exact hc
 ·exact h j hj (by omega)
def CutRet (w:World) (s:ByteArray) (e:Ending) (w':World):Prop:=
 Below w.heap.size w w'∧((e=.returned (.string ⟨#[]⟩)∧cutFrom s s.size)∨(∃ k,∃ h:k<s.size,e=.returned (.string (s.extract k s.size))∧(xd s[k] || digit s[k])=false))
def inTill (r:Nat) (j:Nat):Bool:=(z6.take j).any fun c=>c.toNat == r
theorem inTill_succ (r j:Nat) (h:j<37):inTill r (j+1)=(inTill r j || (((z6[j]'h).toNat:Int) == (r:Int)) ):=by
 unfold inTill
 rw [List.take_succ_eq_append_getElem h,List.any_append]
 congr 1
 simp only [List.any_cons,List.any_nil,Bool.or_false]
 rw [Bool.eq_iff_iff]
 simp only [beq_iff_eq]
 omega
theorem name_lt:∀ j (h:j<37),((S z6)[j]'(by simpa [S,z6,ByteArray.size] using h)).toNat<128∧(S z6)[j]'(by simpa [S,z6,ByteArray.size] using h)=z6[j]'h:=by
 intro j h
 constructor
 ·have:∀ c∈z6,c.toNat<128:=by decide
  exact this (z6[j]'h) (List.getElem_mem _)
 ·rfl
theorem cutLeft_any (s:ByteArray) (hs:s.size≤100) (w:World):Calls Tryz.prog 184 #[.string s,.string (S z6)] w (CutRet w s):=by
 go_enter Tryz.func184,Tryz.ntmps184
 go_wp2_with fail
 go_loopw [5,6,7,9,12,13] (fun _ _ _ _ _ _ wr=>∃ pos:Nat,wr.heap[w.heap.size]?=some (.stringIter s pos)∧Below w.heap.size w wr∧cutFrom s pos∧w.heap.size<wr.heap.size) (fun _ _ _ _ _ _ wr=>s.size - wr.iterPos w.heap.size)
 case atStart=>exact ⟨0,World.iter_heap _ _ _,(wu _ _).alloc (wo _) _,fun j _ h=>absurd h (Nat.not_lt_zero j),by simp [World.iter]⟩
 case round=>
  obtain ⟨pos,hit,hB,hC,hz⟩:=hrel
  by_cases hp:pos<s.size
  ·have hnx:=fun ty=>next_more (P:=Tryz.prog) wr w.heap.size s pos ty hit hp
   have HS:=k8 (And.intro (stepped_size wr w.heap.size s (pos+(Utf8.decode s pos).2)) (And.intro (stepped_at wr w.heap.size s (pos+(Utf8.decode s pos).2) hz) (below_stepped hB w.heap.size s (pos+(Utf8.decode s pos).2) (wo _))))
   have HC:=k8 hC
   have HP0:Hid (wr.iterPos w.heap.size=pos):=by simp [Hid,World.iterPos,hit]
   clear hB hC
   go_wp2_with fail
   clear hnx
   generalize World.stepped wr w.heap.size s (pos+(Utf8.decode s pos).2)=W at *
   obtain ⟨hsz,hat,hBW⟩:=HS.out
   have hz2:w.heap.size<W.heap.size:=by omega
   have HS2:=k8 (And.intro hat hBW)
   have hlen:(S z6).size=37:=rfl
   clear HS hsz hat hBW hit
   go_loopw [7,9,18,19] (fun f _ _ _ wq=>∃ j:Nat,j≤37∧f=.bool (inTill (Utf8.decode s pos).1 j)∧wq.heap[W.heap.size]?=some (.stringIter (S z6) j)∧Below W.heap.size W wq∧W.heap.size<wq.heap.size) (fun _ _ _ _ wq=>37 - wq.iterPos W.heap.size)
   case atStart=>exact ⟨0,by omega,rfl,World.iter_heap _ _ _,(wu _ _).alloc (wo _) _,by simp [World.iter]⟩
   case round=>
    obtain ⟨j,hj,rfl,hit2,hB2,hz3⟩:=hrel
    by_cases hjl:j<37
    ·have hb:=name_lt j hjl
     have hd:=decode_ascii (S z6) j (by omega) hb.1
     have hnx:=fun ty=>next_more (P:=Tryz.prog) wr W.heap.size (S z6) j ty hit2 (by omega)
     rw [hd,hb.2] at hnx
     have hsucc:=inTill_succ (Utf8.decode s pos).1 j hjl
     have HS3:=k8 (And.intro (stepped_at wr W.heap.size (S z6) (j+1) hz3) (And.intro (below_stepped hB2 W.heap.size (S z6) (j+1) (wo _)) (stepped_size wr W.heap.size (S z6) (j+1))))
     have HP:Hid (wr.iterPos W.heap.size=j):=by simp [Hid,World.iterPos,hit2]
     clear hd hb hlen hit2 hB2
     generalize z6[j]'hjl=c at *
     generalize (Utf8.decode s pos).1=r at *
     cases hin:inTill r j with
     | true=>
      have HE:Hid (inTill r (j+1)=true):=by rw [hsucc,hin];rfl
      clear hin hsucc
      go_wp2_with fail
      clear hnx
      go_roundw
      case rel=>exact ⟨j+1,by omega,by rw [HE.out],HS3.out.1,HS3.out.2.1,by rw [HS3.out.2.2];exact hz3⟩
      case measure=>rw [ku _ _ _ _ hz3,HP.out];omega
     | false=>
      have HE:Hid (inTill r (j+1)=((r:Int) == (c.toNat:Int))):=by
       show inTill r (j+1)=_
       rw [hsucc,hin,Bool.false_or,Bool.eq_iff_iff]
       simp only [beq_iff_eq]
       omega
      clear hin hsucc
      go_wp2_with fail
      clear hnx
      go_roundw
      case rel=>exact ⟨j+1,by omega,by rw [HE.out],HS3.out.1,HS3.out.2.1,by rw [HS3.out.2.2];exact hz3⟩
      case measure=>rw [ku _ _ _ _ hz3,HP.out];omega
    ·have hj37:j=37:=by omega
     subst hj37
     have hnx:=fun ty=>next_over (P:=Tryz.prog) wr W.heap.size (S z6) 37 ty hit2 (by omega)
     have HB3:=k8 (jg HS2.out.2 (Nat.le_of_lt hz2) hB2)
     have HI3:Hid (wr.heap[w.heap.size]?=some (.stringIter s (pos+(Utf8.decode s pos).2))):=(hB2.block _ hz2).trans HS2.out.1
     clear hB2 hit2 hlen
     have hall:inTill (Utf8.decode s pos).1 37=inSet (Utf8.decode s pos).1:=rfl
     by_cases hlow:(s[pos]'hp).toNat<128
     ·have hd:=decode_ascii s pos hp hlow
      rw [hd,inSet_byte] at hall
      rw [hd] at HI3
      simp only [hd]
      cases hl:(xd (s[pos]'hp) || digit (s[pos]'hp)) with
      | true=>
       rw [hl] at hall
       have HC2:=k8 (cutFrom_succ HC.out hp hl)
       clear hd hl
       have HPo:=k8 HP0.out
       have HZ:=k8 (Nat.lt_of_lt_of_le hz2 (Nat.le_of_lt hz3))
       go_wp2_with fail
       clear hnx
       go_roundw
       case rel=>exact ⟨pos+1,HI3.out,HB3.out,HC2.out,HZ.out⟩
       case measure=>
        have e1:wr.iterPos w.heap.size=pos+1:=by simp only [World.iterPos,HI3.out]
        rw [e1,HPo.out];omega
      | false=>
       rw [hl] at hall
       have HF:=k8 hl
       clear hd hl
       go_wp2_with fail
       go_ret
       exact ⟨HB3.out,.inr ⟨pos,hp,rfl,HF.out⟩⟩
     ·have hd:=(decode_high s pos hp (by omega)).1
      have hF:(xd (s[pos]'hp) || digit (s[pos]'hp))=false:=by
       rw [← inSet_byte];exact inSet_high _ (by omega)
      have HF:=k8 hF
      rw [inSet_high _ hd] at hall
      clear hd hF
      go_wp2_with fail
      go_ret
      exact ⟨HB3.out,.inr ⟨pos,hp,rfl,HF.out⟩⟩
  ·have hnx:=fun ty=>next_over (P:=Tryz.prog) wr w.heap.size s pos ty hit hp
   have HB:=k8 hB
   have HC:Hid (cutFrom s s.size):=fun j h _=>hC j h (by omega)
   clear hB hC
   go_wp2_with fail
   go_ret
   exact ⟨HB.out,.inl ⟨rfl,HC.out⟩⟩
theorem last_high (l:Txt) (hne:l≠[]) (h:128≤(l.getD (l.length - 1) 0).toNat):128≤(Lib.decodeLastL l).1:=by
 have hpos:0<l.length:=List.length_pos_iff.2 hne
 unfold Lib.decodeLastL
 rw [if_neg hne,if_neg (by omega)]
 dsimp only
 split
 ·rename_i hw
  by_cases hk:Lib.lastStart l<l.length
  ·have hsz:(⟨(l.drop (Lib.lastStart l)).toArray⟩:ByteArray).size=l.length - Lib.lastStart l:=by simp [ByteArray.size]
   have hget:((⟨(l.drop (Lib.lastStart l)).toArray⟩:ByteArray)[0]'(by omega))=l[Lib.lastStart l]:=by
    show ((l.drop (Lib.lastStart l)).toArray)[0]'(by simp;omega)=_
    simp
   by_cases hb:(l[Lib.lastStart l]).toNat<128
   ·have hd:=decode_ascii (⟨(l.drop (Lib.lastStart l)).toArray⟩:ByteArray) 0 (by omega) (by rw [hget];exact hb)
    have hw':Lib.lastStart l+(Utf8.decode ⟨(l.drop (Lib.lastStart l)).toArray⟩ 0).2=l.length:=hw
    rw [hd] at hw'
    simp only at hw'
    have e:Lib.lastStart l=l.length - 1:=by omega
    rw [List.getD_eq_getElem?_getD,List.getElem?_eq_getElem (by omega),Option.getD_some] at h
    have e2:l[Lib.lastStart l]=l[l.length - 1]'(by omega):=by congr 1
    rw [e2] at hb
    omega
   ·exact (decode_high (⟨(l.drop (Lib.lastStart l)).toArray⟩:ByteArray) 0 (by omega) (by rw [hget];omega)).1
  ·have h1:=Lib.width_pos ⟨(l.drop (Lib.lastStart l)).toArray⟩ 0
   have hw':Lib.lastStart l+(Utf8.decode ⟨(l.drop (Lib.lastStart l)).toArray⟩ 0).2=l.length:=hw
   omega
 ·show 128≤65533
  omega
theorem cutRight_none (w:World):Calls Tryz.prog 183 #[.string ⟨#[]⟩,.string (S z6)] w (Ret w (.string ⟨#[]⟩)):=by
 go_enter Tryz.func183,Tryz.ntmps183
 go_wp2_with fail
 refine wp_loop_rounds 1 ?_
 rw [rounds_succ]
 go_wp2
 go_ret
 exact ⟨rfl,wu _ _⟩
theorem last_in (s:ByteArray) (m:Nat) (hm:0<m) (hms:m≤s.size) :
  inSet (Lib.decodeLastL (s.extract 0 m).data.toList).1=(xd (s[m - 1]'(by omega)) || digit (s[m - 1]'(by omega))) ∧
  (inSet (Lib.decodeLastL (s.extract 0 m).data.toList).1=true→(Lib.decodeLastL (s.extract 0 m).data.toList).2=1):=by
 have hl:(s.extract 0 m).data.toList=s.data.toList.take m:=by simp
 rw [hl]
 have hlen:(s.data.toList.take m).length=m:=by
  have:s.data.toList.length=s.size:=rfl
  rw [List.length_take];omega
 have hne:s.data.toList.take m≠[]:=by intro e;rw [e] at hlen;simp at hlen;omega
 have hlast:(s.data.toList.take m).getD (m - 1) 0=s[m - 1]'(by omega):=by
  rw [List.getD_eq_getElem?_getD,List.getElem?_take,if_pos (by omega),List.getElem?_eq_getElem (by show m - 1<s.size;omega)]
  rfl
 by_cases hb:(s[m - 1]'(by omega)).toNat<128
 ·have hd:Lib.decodeLastL (s.data.toList.take m)=((s[m - 1]'(by omega)).toNat,1):=by
   unfold Lib.decodeLastL
   rw [if_neg hne,hlen,hlast,if_pos hb]
  rw [hd]
  exact ⟨inSet_byte _,fun _=>rfl⟩
 ·have h1:=inSet_high _ (last_high (s.data.toList.take m) hne (by rw [hlen,hlast];omega))
  rw [h1]
  refine ⟨?_,fun h=>by cases h⟩
  rw [← inSet_byte]
  exact (inSet_high _ (by omega)).symm
def SomeRet (w:World) (e:Ending) (w':World):Prop:=Below w.heap.size w w'∧∃ t:ByteArray,0<t.size∧e=.returned (.string t)
theorem cutRight_some (s:ByteArray) (h0:0<s.size) (hs:s.size≤100) (hf:(xd s[0] || digit s[0])=false) (w:World) (hg:Glob w) :
  Calls Tryz.prog 183 #[.string s,.string (S z6)] w (SomeRet w):=by
 have HF:=k8 hf
 have HG:=k8 hg
 clear hf hg
 go_enter Tryz.func183,Tryz.ntmps183
 go_wp2_with fail
 go_loopw [0,5,6,7] (fun v _ _ _ wr=>∃ m:Nat,0<m∧m≤s.size∧v=.string (s.extract 0 m)∧Below w.heap.size w wr) (fun v _ _ _ wr=>match v with|.string t=>t.size|_=>0)
 case atStart=>exact ⟨s.size,h0,wo _,by simp,wu _ _⟩
 case round=>
  obtain ⟨m,hm,hms,rfl,hB⟩:=hrel
  have hsz:(s.extract 0 m).size=m:=by simp;omega
  have hin:=last_in s m hm hms
  have HIN:=k8 hin
  have HB:=k8 hB
  have HSZ:=k8 hsz
  have hsp:0<(s.extract 0 m).size:=by omega
  clear hin hB hsz
  go_wp2_with fail
  refine (Tryz.utf8_DecodeLastRuneInString (s.extract 0 m) wr (by rw [HSZ.out];omega) (HG.out.utf wr HB.out)).mono ?_
  rintro e w2 ⟨rfl,hB2⟩
  have HB2:=k8 (jg HB.out HB.out.size hB2)
  clear hB2 HB
  have hwid:(Lib.decodeLastL (s.extract 0 m).data.toList).2≤m:=by
   have:=Lib.decodeLastL_width (s.extract 0 m).data.toList (by show 0<(s.extract 0 m).size;exact hsp)
   have h2:(s.extract 0 m).data.toList.length=m:=HSZ.out
   omega
  generalize Lib.decodeLastL (s.extract 0 m).data.toList=d at *
  obtain ⟨r,n⟩:=d
  go_wp2_with fail
  have hlen:(S z6).size=37:=rfl
  go_loopw [7,9,20,21] (fun f _ _ _ wq=>∃ j:Nat,j≤37∧f=.bool (inTill r j)∧wq.heap[w2.heap.size]?=some (.stringIter (S z6) j)∧Below w2.heap.size w2 wq∧w2.heap.size<wq.heap.size) (fun _ _ _ _ wq=>37 - wq.iterPos w2.heap.size)
  case atStart=>exact ⟨0,by omega,rfl,World.iter_heap _ _ _,(wu _ _).alloc (wo _) _,by simp [World.iter]⟩
  case round=>
   obtain ⟨j,hj,rfl,hit2,hB2,hz3⟩:=hrel
   by_cases hjl:j<37
   ·have hb:=name_lt j hjl
    have hd:=decode_ascii (S z6) j (by omega) hb.1
    have hnx:=fun ty=>next_more (P:=Tryz.prog) wr w2.heap.size (S z6) j ty hit2 (by omega)
    rw [hd,hb.2] at hnx
    have hsucc:=inTill_succ r j hjl
    have HS3:=k8 (And.intro (stepped_at wr w2.heap.size (S z6) (j+1) hz3) (And.intro (below_stepped hB2 w2.heap.size (S z6) (j+1) (wo _)) (stepped_size wr w2.heap.size (S z6) (j+1))))
    have HP:Hid (wr.iterPos w2.heap.size=j):=by simp [Hid,World.iterPos,hit2]
    clear hd hb hlen hit2 hB2
    generalize z6[j]'hjl=c at *
    cases hin:inTill r j with
    | true=>
     have HE:Hid (inTill r (j+1)=true):=by rw [hsucc,hin];rfl
     clear hin hsucc
     go_wp2_with fail
     clear hnx
     go_roundw
     case rel=>exact ⟨j+1,by omega,by rw [HE.out],HS3.out.1,HS3.out.2.1,by rw [HS3.out.2.2];exact hz3⟩
     case measure=>rw [ku _ _ _ _ hz3,HP.out];omega
    | false=>
     have HE:Hid (inTill r (j+1)=((r:Int) == (c.toNat:Int))):=by
      show inTill r (j+1)=_
      rw [hsucc,hin,Bool.false_or,Bool.eq_iff_iff]
      simp only [beq_iff_eq]
      omega
     clear hin hsucc
     go_wp2_with fail
     clear hnx
     go_roundw
     case rel=>exact ⟨j+1,by omega,by rw [HE.out],HS3.out.1,HS3.out.2.1,by rw [HS3.out.2.2];exact hz3⟩
     case measure=>rw [ku _ _ _ _ hz3,HP.out];omega
   ·have hj37:j=37:=by omega
    subst hj37
    have hnx:=fun ty=>next_over (P:=Tryz.prog) wr w2.heap.size (S z6) 37 ty hit2 (by omega)
    have HB3:=k8 (jg HB2.out HB2.out.size hB2)
    clear hB2 hit2 hlen
    have hall:inTill r 37=inSet r:=rfl
    cases hin:inSet r with
    | true=>
     rw [hin] at hall
     obtain rfl:n=1:=HIN.out.2 hin
     have HM:Hid (1<m):=by
      have h1:=HIN.out.1
      by_cases e:m=1
      ·subst e
       have:(xd s[0] || digit s[0])=true:=by rw [← hin];exact h1.symm
       rw [HF.out] at this;cases this
      ·show 1<m;omega
     have hm1:0<m - 1:=by have:=HM.out;omega
     have HEX:Hid ((s.extract 0 m).extract 0 (m - 1)=s.extract 0 (m - 1)):=by
      show _=_
      rw [ByteArray.extract_extract]
      congr 1
      omega
     clear hin
     have hi0:0≤(m:Int) - 1:=by omega
     have hi1:(m:Int) - 1≤m:=by omega
     go_wp2_with fail
     refine ⟨⟨m - 1,hm1,by omega,by rw [HEX.out],HB3.out⟩,?_⟩
     show ((s.extract 0 m).extract 0 (m - 1)).size<(s.extract 0 m).size
     rw [HEX.out,HSZ.out]
     have:(s.extract 0 (m - 1)).size=m - 1:=by simp;omega
     omega
    | false=>
     rw [hin] at hall
     clear hin
     go_wp2_with fail
     go_ret
     exact ⟨HB3.out,_,hsp,rfl⟩
theorem onlyASCII_any (s:ByteArray) (hs:s.size≤100) (hall:∀ j (h:j<s.size),(s[j]).toNat<128) (w:World) :
  Calls Tryz.prog 185 #[.string s] w (Ret w (.bool true)):=by
 have HA:=k8 hall
 clear hall
 go_enter Tryz.func185,Tryz.ntmps185
 go_wp2_with fail
 go_loop [3,6] (fun _ i=>∃ k:Nat,k≤s.size∧i=.int .i64 k) (fun _ i=>s.size - (intOf i).toNat)
 case atStart=>exact ⟨0,gj _,rfl⟩
 case round=>
  obtain ⟨k,hk,rfl⟩:=hrel
  by_cases hlt:k<s.size
  ·have h1:=HA.out k hlt
   have h2:¬ ((s[k]).toNat:Int) ≥ 128:=by omega
   go_wp2
   go_round
   case rel=>exact ⟨k+1,by omega,by go_num⟩
   case measure=>simp [intOf];omega
  ·go_wp2
   go_ret
   exact ⟨rfl,wu _ _⟩
theorem byte_list (s:ByteArray):∀ (j:Nat) (h:j<s.size),s.data.toList[j]'h=s[j]:=fun _ _=>rfl
theorem nameOk_iff (s:ByteArray) (h1:1≤s.size) (h2:s.size≤24) (hl:xd s[0]=true):nameOk s.data.toList=true ↔ cutFrom s s.size:=by
 have hlen:s.data.toList.length=s.size:=rfl
 unfold nameOk
 have hh:firstLetter s.data.toList=true:=by
  cases hs:s.data.toList with
  | nil=>rw [hs] at hlen;simp only [List.length_nil] at hlen;omega
  | cons c l=>
   have:c=s[0]:=by
    have:=byte_list s 0 (by omega)
    simp only [hs,List.getElem_cons_zero] at this
    exact this
   show xd c=_
   rw [this];exact hl
 rw [hh]
 simp only [hlen,Bool.and_eq_true,decide_eq_true_eq,Bool.and_true,List.all_eq_true]
 constructor
 ·rintro ⟨_,h⟩ j hj _
  have:=h _ (List.getElem_mem (l:=s.data.toList) (n:=j) hj)
  rwa [byte_list] at this
 ·intro h
  refine ⟨⟨h1,h2⟩,fun c hc=>?_⟩
  obtain ⟨j,hj,rfl⟩:=List.getElem_of_mem hc
  rw [byte_list]
  exact h j hj hj
theorem nameOk_first (s:ByteArray) (h1:1≤s.size) (hl:xd s[0]=false):nameOk s.data.toList=false:=by
 have hlen:s.data.toList.length=s.size:=rfl
 unfold nameOk
 have hh:firstLetter s.data.toList=false:=by
  cases hs:s.data.toList with
  | nil=>rw [hs] at hlen;simp only [List.length_nil] at hlen;omega
  | cons c l=>
   have:c=s[0]:=by
    have:=byte_list s 0 (by omega)
    simp only [hs,List.getElem_cons_zero] at this
    exact this
   show xd c=_
   rw [this];exact hl
 rw [hh];simp
theorem nameOk_len (s:ByteArray) (h:s.size<1∨24<s.size):nameOk s.data.toList=false:=by
 have hlen:s.data.toList.length=s.size:=rfl
 unfold nameOk
 rw [hlen]
 rcases h with h|h
 ·simp [show ¬ 1≤s.size from by omega]
 ·simp [show ¬ s.size≤24 from by omega]
theorem first_one (s:ByteArray) (h:1≤s.size):s.extract 0 1=⟨#[s[0]]⟩:=by
 apply ByteArray.ext
 apply Array.ext'
 have hl:(s.extract 0 1).data.toList=s.data.toList.take 1:=by simp
 rw [hl]
 cases hs:s.data.toList with
 | nil=>
  have hlen:s.data.toList.length=s.size:=rfl
  rw [hs] at hlen;simp at hlen;omega
 | cons c l=>
  have:=byte_list s 0 (by omega)
  simp only [hs,List.getElem_cons_zero] at this
  simp [this]
def letters:Txt:=[97,98,99,100,101,102,103,104,105,106,107,108,109,110,111,112,113,114,115,116,117,118,119,120,121,122,95]
theorem letters_in (c:UInt8):decide (0≤Lib.indexByte letters c)=xd c:=by
 have h:∀ n:Fin 256,decide (0≤Lib.indexByte letters (UInt8.ofNat n.val))=xd (UInt8.ofNat n.val):=by decide +kernel
 have:=h ⟨c.toNat,c.toNat_lt⟩
 simpa using this
theorem low_of {c:UInt8} (h:(xd c || digit c)=true):c.toNat<128:=by
 rcases Nat.lt_or_ge c.toNat 128 with h1|h1
 ·exact h1
 ·rw [← inSet_byte,inSet_high _ h1] at h;cases h
theorem not_empty (t:ByteArray) (h:0<t.size):t.toList.isEmpty=false:=by
 rw [ByteArray.toList_eq]
 cases ht:t.data.toList with
 | nil=>
  have:t.data.toList.length=t.size:=rfl
  rw [ht] at this;simp only [List.length_nil] at this;omega
 | cons c l=>rfl
theorem extract_first (s:ByteArray) (k:Nat) (hk:k<s.size) (hs:s.size≤100) (hf:(xd s[k] || digit s[k])=false) :
  ∃ h:0<(s.extract k s.size).size,(s.extract k s.size).size≤100∧(xd ((s.extract k s.size)[0]'h) || digit ((s.extract k s.size)[0]'h))=false:=by
 have hz:(s.extract k s.size).size=s.size - k:=by simp
 have h0:0<(s.extract k s.size).size:=by omega
 refine ⟨h0,by omega,?_⟩
 have e:(s.extract k s.size)[0]'h0=s[k]:=by
  rw [ByteArray.getElem_extract]
  congr 1
 rw [e];exact hf
theorem name_any (s:ByteArray) (w:World) (hsz:s.size≤140737488351232) (hg:Glob w):Calls Tryz.prog 171 #[.string s] w (Ret w (.bool (nameOk s.data.toList))):=by
 have HG:=k8 hg
 clear hg
 by_cases hlo:s.size<1
 ·have HE:=k8 (nameOk_len s (.inl hlo))
  go_enter Tryz.func171,Tryz.ntmps171
  go_wp2_with fail
  go_ret
  exact ⟨by rw [HE.out];rfl,wu _ _⟩
 by_cases hhi:24<s.size
 ·have HE:=k8 (nameOk_len s (.inr hhi))
  go_enter Tryz.func171,Tryz.ntmps171
  go_wp2_with fail
  go_ret
  exact ⟨by rw [HE.out];rfl,wu _ _⟩
 have hone:=first_one s (by omega)
 have hcn:=Tryz.strings_Contains_one (S letters) (s[0]'(by omega)) w
 rw [S_toList,letters_in] at hcn
 have HC:=k8 hcn
 have HO:=k8 hone
 clear hcn hone
 go_enter Tryz.func171,Tryz.ntmps171
 go_wp2_with fail
 rw [HO.out]
 refine HC.out.mono ?_
 rintro e w' ⟨rfl,rfl⟩
 cases hl:xd (s[0]'(by omega)) with
 | false=>
  have HE:=k8 (nameOk_first s (by omega) hl)
  clear hl
  go_wp2_with fail
  go_ret
  exact ⟨by rw [HE.out];rfl,wu _ _⟩
 | true=>
  have HI:=k8 (nameOk_iff s (by omega) (by omega) hl)
  clear hl
  go_wp2_with fail
  refine (cutLeft_any s (by omega) _).mono ?_
  rintro e w1 ⟨hB,hcase⟩
  rcases hcase with ⟨rfl,hall⟩|⟨k,hk,rfl,hnot⟩
  ·have HB:=k8 hB
   have HE:=k8 (HI.out.2 hall)
   have HA:=k8 (fun j h=>low_of (hall j h h))
   clear hB hall
   go_wp2_with fail
   refine (cutRight_none w1).mono ?_
   rintro e w2 ⟨rfl,hB2⟩
   have HB2:=k8 (jg HB.out HB.out.size hB2)
   clear hB2 HB
   go_wp2_with fail
   refine (onlyASCII_any s (by omega) HA.out w2).mono ?_
   rintro e w3 ⟨rfl,hB3⟩
   have HB3:=k8 (jg HB2.out HB2.out.size hB3)
   clear hB3 HB2
   go_wp2_with fail
   go_ret
   exact ⟨by rw [HE.out];rfl,HB3.out⟩
  ·have HB:=k8 hB
   have HE:Hid (nameOk s.data.toList=false):=by
    show _=_
    rw [Bool.eq_false_iff]
    intro h
    have:=HI.out.1 h k hk hk
    rw [hnot] at this;cases this
   have HX:=k8 (extract_first s k hk (by omega) hnot)
   clear hB hnot
   generalize s.extract k s.size=u at *
   go_wp2_with fail
   obtain ⟨hx0,hx2,hx3⟩:=HX.out
   refine (cutRight_some u hx0 hx2 hx3 w1 (HG.out.below HB.out)).mono ?_
   rintro e w2 ⟨hB2,t,ht,rfl⟩
   have HB2:=k8 (jg HB.out HB.out.size hB2)
   have ht1:=not_empty t ht
   clear hB2 HB
   go_wp2_with fail
   go_ret
   exact ⟨by rw [HE.out];rfl,HB2.out⟩
end
end Go.Proofs.YtdembmaldllmkaaGreatDoor
