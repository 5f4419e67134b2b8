/- Facts of the types of the program, as the abstract logic asks for them. Printed by an own program; each is checked by the kernel.
  The values of the program's types, as the abstract logic writes them: numbers, sectors, writes, cycles, fan-outs.
  Walks: equality of lists of numbers, sectors, writes; of cycles and fan-outs.
  Walks: equality of writes, cycles and fan-outs; what is few.
  Walks: equality of cycles and fan-outs; what is few.
  Walks: equality of fan-outs; New of the reference's side: its parts.
  Walks: the reference's checks of sizes, positions, writes and cycles.
  Walks: the reference's checks of lists of writes and of cycles. -/
import Derived.Test.YtlmjpgmaefokdaaM3
import Derived.Test.YtlmjpgmaefokdaaProg
section
set_option linter.unusedSimpArgs false
set_option linter.unusedVariables false
namespace Go.Proofs.Ytlmjpgmaefokdaa
open Go.Proofs
theorem agg3 : aggT Try.prog 3 = some false := by kernel_rfl
theorem cel3 : Try.prog.cellsOf 3 = 1 := by kernel_rfl
theorem pa3 : ∀ (cs : List AV) (o : Nat), partA Try.prog 3 cs o = cs[o]? := paT agg3
theorem lv3 : ∀ (v : AV) (o : Nat), loadV Try.prog 3 v o = v.cells[o]? := lvT agg3
theorem st3 : ∀ (id tot i off : Nat) (x : AV) (g : Nat → Option Ob), opStore Try.prog 3 (.ptr id tot i off) x g = stO 1 id tot i off x (g id) := stT cel3 rfl
theorem zr3 : zeroA Try.prog 3 = some (.int .i64 0) := by kernel_rfl
theorem by3 : Try.prog.bytesOf 3 = 8 := by kernel_rfl
theorem zo3 : zeroOk Try.prog 3 = true := by kernel_rfl
theorem agg4 : aggT Try.prog 4 = some false := by kernel_rfl
theorem cel4 : Try.prog.cellsOf 4 = 1 := by kernel_rfl
theorem pa4 : ∀ (cs : List AV) (o : Nat), partA Try.prog 4 cs o = cs[o]? := paT agg4
theorem lv4 : ∀ (v : AV) (o : Nat), loadV Try.prog 4 v o = v.cells[o]? := lvT agg4
theorem st4 : ∀ (id tot i off : Nat) (x : AV) (g : Nat → Option Ob), opStore Try.prog 4 (.ptr id tot i off) x g = stO 1 id tot i off x (g id) := stT cel4 rfl
theorem zr4 : zeroA Try.prog 4 = some (.bool false) := by kernel_rfl
theorem by4 : Try.prog.bytesOf 4 = 1 := by kernel_rfl
theorem zo4 : zeroOk Try.prog 4 = true := by kernel_rfl
theorem ib4 : isBoolT Try.prog 4 = true := by kernel_rfl
theorem agg5 : aggT Try.prog 5 = some false := by kernel_rfl
theorem cel5 : Try.prog.cellsOf 5 = 1 := by kernel_rfl
theorem pa5 : ∀ (cs : List AV) (o : Nat), partA Try.prog 5 cs o = cs[o]? := paT agg5
theorem lv5 : ∀ (v : AV) (o : Nat), loadV Try.prog 5 v o = v.cells[o]? := lvT agg5
theorem st5 : ∀ (id tot i off : Nat) (x : AV) (g : Nat → Option Ob), opStore Try.prog 5 (.ptr id tot i off) x g = stO 1 id tot i off x (g id) := stT cel5 rfl
theorem zr5 : zeroA Try.prog 5 = some (.int .u8 0) := by kernel_rfl
theorem by5 : Try.prog.bytesOf 5 = 1 := by kernel_rfl
theorem zo5 : zeroOk Try.prog 5 = true := by kernel_rfl
theorem agg22 : aggT Try.prog 22 = some false := by kernel_rfl
theorem cel22 : Try.prog.cellsOf 22 = 1 := by kernel_rfl
theorem pa22 : ∀ (cs : List AV) (o : Nat), partA Try.prog 22 cs o = cs[o]? := paT agg22
theorem lv22 : ∀ (v : AV) (o : Nat), loadV Try.prog 22 v o = v.cells[o]? := lvT agg22
theorem st22 : ∀ (id tot i off : Nat) (x : AV) (g : Nat → Option Ob), opStore Try.prog 22 (.ptr id tot i off) x g = stO 1 id tot i off x (g id) := stT cel22 rfl
theorem zr22 : zeroA Try.prog 22 = some .nil0 := by kernel_rfl
theorem by22 : Try.prog.bytesOf 22 = 24 := by kernel_rfl
theorem zo22 : zeroOk Try.prog 22 = true := by kernel_rfl
theorem agg23 : aggT Try.prog 23 = some false := by kernel_rfl
theorem cel23 : Try.prog.cellsOf 23 = 1 := by kernel_rfl
theorem pa23 : ∀ (cs : List AV) (o : Nat), partA Try.prog 23 cs o = cs[o]? := paT agg23
theorem lv23 : ∀ (v : AV) (o : Nat), loadV Try.prog 23 v o = v.cells[o]? := lvT agg23
theorem st23 : ∀ (id tot i off : Nat) (x : AV) (g : Nat → Option Ob), opStore Try.prog 23 (.ptr id tot i off) x g = stO 1 id tot i off x (g id) := stT cel23 rfl
theorem zr23 : zeroA Try.prog 23 = some .nil0 := by kernel_rfl
theorem by23 : Try.prog.bytesOf 23 = 24 := by kernel_rfl
theorem zo23 : zeroOk Try.prog 23 = true := by kernel_rfl
theorem agg24 : aggT Try.prog 24 = some false := by kernel_rfl
theorem cel24 : Try.prog.cellsOf 24 = 1 := by kernel_rfl
theorem pa24 : ∀ (cs : List AV) (o : Nat), partA Try.prog 24 cs o = cs[o]? := paT agg24
theorem lv24 : ∀ (v : AV) (o : Nat), loadV Try.prog 24 v o = v.cells[o]? := lvT agg24
theorem st24 : ∀ (id tot i off : Nat) (x : AV) (g : Nat → Option Ob), opStore Try.prog 24 (.ptr id tot i off) x g = stO 1 id tot i off x (g id) := stT cel24 rfl
theorem zr24 : zeroA Try.prog 24 = some .nil0 := by kernel_rfl
theorem by24 : Try.prog.bytesOf 24 = 24 := by kernel_rfl
theorem zo24 : zeroOk Try.prog 24 = true := by kernel_rfl
theorem agg26 : aggT Try.prog 26 = some true := by kernel_rfl
theorem cel26 : Try.prog.cellsOf 26 = 4 := by kernel_rfl
theorem pa26 : ∀ (cs : List AV) (o : Nat), partA Try.prog 26 cs o = if o + 4 ≤ cs.length then some (.agg ((cs.drop o).take 4)) else none := paT' agg26 cel26
theorem lv26 : ∀ (xs : List AV), loadV Try.prog 26 (.agg xs) 0 = if xs.length = 4 then some (.agg xs) else if 0 + 4 ≤ xs.length then some (.agg ((xs.drop 0).take 4)) else none := lvT' agg26 cel26
theorem st26 : ∀ (id tot i off : Nat) (x : AV) (g : Nat → Option Ob), opStore Try.prog 26 (.ptr id tot i off) x g = stO 4 id tot i off x (g id) := stT cel26 rfl
theorem zr26 : zeroA Try.prog 26 = some (.agg [(.int .i64 0), .nil0, .nil0, .nil0]) := by kernel_rfl
theorem by26 : Try.prog.bytesOf 26 = 80 := by kernel_rfl
theorem zo26 : zeroOk Try.prog 26 = true := by kernel_rfl
theorem agg28 : aggT Try.prog 28 = some true := by kernel_rfl
theorem cel28 : Try.prog.cellsOf 28 = 3 := by kernel_rfl
theorem pa28 : ∀ (cs : List AV) (o : Nat), partA Try.prog 28 cs o = if o + 3 ≤ cs.length then some (.agg ((cs.drop o).take 3)) else none := paT' agg28 cel28
theorem lv28 : ∀ (xs : List AV), loadV Try.prog 28 (.agg xs) 0 = if xs.length = 3 then some (.agg xs) else if 0 + 3 ≤ xs.length then some (.agg ((xs.drop 0).take 3)) else none := lvT' agg28 cel28
theorem st28 : ∀ (id tot i off : Nat) (x : AV) (g : Nat → Option Ob), opStore Try.prog 28 (.ptr id tot i off) x g = stO 3 id tot i off x (g id) := stT cel28 rfl
theorem zr28 : zeroA Try.prog 28 = some (.agg [(.int .i64 0), (.int .i64 0), (.int .i64 0)]) := by kernel_rfl
theorem by28 : Try.prog.bytesOf 28 = 24 := by kernel_rfl
theorem zo28 : zeroOk Try.prog 28 = true := by kernel_rfl
theorem agg31 : aggT Try.prog 31 = some false := by kernel_rfl
theorem cel31 : Try.prog.cellsOf 31 = 1 := by kernel_rfl
theorem pa31 : ∀ (cs : List AV) (o : Nat), partA Try.prog 31 cs o = cs[o]? := paT agg31
theorem lv31 : ∀ (v : AV) (o : Nat), loadV Try.prog 31 v o = v.cells[o]? := lvT agg31
theorem st31 : ∀ (id tot i off : Nat) (x : AV) (g : Nat → Option Ob), opStore Try.prog 31 (.ptr id tot i off) x g = stO 1 id tot i off x (g id) := stT cel31 rfl
theorem zr31 : zeroA Try.prog 31 = some (.int .i64 0) := by kernel_rfl
theorem by31 : Try.prog.bytesOf 31 = 8 := by kernel_rfl
theorem zo31 : zeroOk Try.prog 31 = true := by kernel_rfl
theorem agg40 : aggT Try.prog 40 = some false := by kernel_rfl
theorem cel40 : Try.prog.cellsOf 40 = 1 := by kernel_rfl
theorem pa40 : ∀ (cs : List AV) (o : Nat), partA Try.prog 40 cs o = cs[o]? := paT agg40
theorem lv40 : ∀ (v : AV) (o : Nat), loadV Try.prog 40 v o = v.cells[o]? := lvT agg40
theorem st40 : ∀ (id tot i off : Nat) (x : AV) (g : Nat → Option Ob), opStore Try.prog 40 (.ptr id tot i off) x g = stO 1 id tot i off x (g id) := stT cel40 rfl
theorem zr40 : zeroA Try.prog 40 = some .nilf := by kernel_rfl
theorem by40 : Try.prog.bytesOf 40 = 8 := by kernel_rfl
theorem zo40 : zeroOk Try.prog 40 = true := by kernel_rfl
theorem agg41 : aggT Try.prog 41 = some false := by kernel_rfl
theorem cel41 : Try.prog.cellsOf 41 = 1 := by kernel_rfl
theorem pa41 : ∀ (cs : List AV) (o : Nat), partA Try.prog 41 cs o = cs[o]? := paT agg41
theorem lv41 : ∀ (v : AV) (o : Nat), loadV Try.prog 41 v o = v.cells[o]? := lvT agg41
theorem st41 : ∀ (id tot i off : Nat) (x : AV) (g : Nat → Option Ob), opStore Try.prog 41 (.ptr id tot i off) x g = stO 1 id tot i off x (g id) := stT cel41 rfl
theorem zr41 : zeroA Try.prog 41 = some .nil0 := by kernel_rfl
theorem by41 : Try.prog.bytesOf 41 = 24 := by kernel_rfl
theorem zo41 : zeroOk Try.prog 41 = true := by kernel_rfl
theorem agg43 : aggT Try.prog 43 = some true := by kernel_rfl
theorem cel43 : Try.prog.cellsOf 43 = 5 := by kernel_rfl
theorem pa43 : ∀ (cs : List AV) (o : Nat), partA Try.prog 43 cs o = if o + 5 ≤ cs.length then some (.agg ((cs.drop o).take 5)) else none := paT' agg43 cel43
theorem lv43 : ∀ (xs : List AV), loadV Try.prog 43 (.agg xs) 0 = if xs.length = 5 then some (.agg xs) else if 0 + 5 ≤ xs.length then some (.agg ((xs.drop 0).take 5)) else none := lvT' agg43 cel43
theorem st43 : ∀ (id tot i off : Nat) (x : AV) (g : Nat → Option Ob), opStore Try.prog 43 (.ptr id tot i off) x g = stO 5 id tot i off x (g id) := stT cel43 rfl
theorem zr43 : zeroA Try.prog 43 = some (.agg [(.int .i64 0), (.int .i64 0), (.int .i64 0), .nil0, .nil0]) := by kernel_rfl
theorem by43 : Try.prog.bytesOf 43 = 72 := by kernel_rfl
theorem zo43 : zeroOk Try.prog 43 = true := by kernel_rfl
theorem agg53 : aggT Try.prog 53 = some false := by kernel_rfl
theorem cel53 : Try.prog.cellsOf 53 = 1 := by kernel_rfl
theorem pa53 : ∀ (cs : List AV) (o : Nat), partA Try.prog 53 cs o = cs[o]? := paT agg53
theorem lv53 : ∀ (v : AV) (o : Nat), loadV Try.prog 53 v o = v.cells[o]? := lvT agg53
theorem st53 : ∀ (id tot i off : Nat) (x : AV) (g : Nat → Option Ob), opStore Try.prog 53 (.ptr id tot i off) x g = stO 1 id tot i off x (g id) := stT cel53 rfl
theorem zr53 : zeroA Try.prog 53 = some .nilf := by kernel_rfl
theorem by53 : Try.prog.bytesOf 53 = 8 := by kernel_rfl
theorem zo53 : zeroOk Try.prog 53 = true := by kernel_rfl
theorem agg67 : aggT Try.prog 67 = some false := by kernel_rfl
theorem cel67 : Try.prog.cellsOf 67 = 1 := by kernel_rfl
theorem pa67 : ∀ (cs : List AV) (o : Nat), partA Try.prog 67 cs o = cs[o]? := paT agg67
theorem lv67 : ∀ (v : AV) (o : Nat), loadV Try.prog 67 v o = v.cells[o]? := lvT agg67
theorem st67 : ∀ (id tot i off : Nat) (x : AV) (g : Nat → Option Ob), opStore Try.prog 67 (.ptr id tot i off) x g = stO 1 id tot i off x (g id) := stT cel67 rfl
theorem zr67 : zeroA Try.prog 67 = some (.int .u64 0) := by kernel_rfl
theorem by67 : Try.prog.bytesOf 67 = 8 := by kernel_rfl
theorem zo67 : zeroOk Try.prog 67 = true := by kernel_rfl
theorem agg72 : aggT Try.prog 72 = some false := by kernel_rfl
theorem cel72 : Try.prog.cellsOf 72 = 1 := by kernel_rfl
theorem pa72 : ∀ (cs : List AV) (o : Nat), partA Try.prog 72 cs o = cs[o]? := paT agg72
theorem lv72 : ∀ (v : AV) (o : Nat), loadV Try.prog 72 v o = v.cells[o]? := lvT agg72
theorem st72 : ∀ (id tot i off : Nat) (x : AV) (g : Nat → Option Ob), opStore Try.prog 72 (.ptr id tot i off) x g = stO 1 id tot i off x (g id) := stT cel72 rfl
theorem zr72 : zeroA Try.prog 72 = some .nil0 := by kernel_rfl
theorem by72 : Try.prog.bytesOf 72 = 24 := by kernel_rfl
theorem zo72 : zeroOk Try.prog 72 = true := by kernel_rfl
theorem agg73 : aggT Try.prog 73 = some false := by kernel_rfl
theorem cel73 : Try.prog.cellsOf 73 = 1 := by kernel_rfl
theorem pa73 : ∀ (cs : List AV) (o : Nat), partA Try.prog 73 cs o = cs[o]? := paT agg73
theorem lv73 : ∀ (v : AV) (o : Nat), loadV Try.prog 73 v o = v.cells[o]? := lvT agg73
theorem st73 : ∀ (id tot i off : Nat) (x : AV) (g : Nat → Option Ob), opStore Try.prog 73 (.ptr id tot i off) x g = stO 1 id tot i off x (g id) := stT cel73 rfl
theorem zr73 : zeroA Try.prog 73 = some .nil0 := by kernel_rfl
theorem by73 : Try.prog.bytesOf 73 = 24 := by kernel_rfl
theorem zo73 : zeroOk Try.prog 73 = true := by kernel_rfl
theorem agg83 : aggT Try.prog 83 = some false := by kernel_rfl
theorem cel83 : Try.prog.cellsOf 83 = 1 := by kernel_rfl
theorem pa83 : ∀ (cs : List AV) (o : Nat), partA Try.prog 83 cs o = cs[o]? := paT agg83
theorem lv83 : ∀ (v : AV) (o : Nat), loadV Try.prog 83 v o = v.cells[o]? := lvT agg83
theorem st83 : ∀ (id tot i off : Nat) (x : AV) (g : Nat → Option Ob), opStore Try.prog 83 (.ptr id tot i off) x g = stO 1 id tot i off x (g id) := stT cel83 rfl
theorem zr83 : zeroA Try.prog 83 = some .nil0 := by kernel_rfl
theorem by83 : Try.prog.bytesOf 83 = 24 := by kernel_rfl
theorem zo83 : zeroOk Try.prog 83 = true := by kernel_rfl
theorem agg85 : aggT Try.prog 85 = some true := by kernel_rfl
theorem cel85 : Try.prog.cellsOf 85 = 3 := by kernel_rfl
theorem pa85 : ∀ (cs : List AV) (o : Nat), partA Try.prog 85 cs o = if o + 3 ≤ cs.length then some (.agg ((cs.drop o).take 3)) else none := paT' agg85 cel85
theorem lv85 : ∀ (xs : List AV), loadV Try.prog 85 (.agg xs) 0 = if xs.length = 3 then some (.agg xs) else if 0 + 3 ≤ xs.length then some (.agg ((xs.drop 0).take 3)) else none := lvT' agg85 cel85
theorem st85 : ∀ (id tot i off : Nat) (x : AV) (g : Nat → Option Ob), opStore Try.prog 85 (.ptr id tot i off) x g = stO 3 id tot i off x (g id) := stT cel85 rfl
theorem zr85 : zeroA Try.prog 85 = some (.agg [(.int .i64 0), (.int .i64 0), .nil0]) := by kernel_rfl
theorem by85 : Try.prog.bytesOf 85 = 40 := by kernel_rfl
theorem zo85 : zeroOk Try.prog 85 = true := by kernel_rfl
theorem agg90 : aggT Try.prog 90 = some true := by kernel_rfl
theorem cel90 : Try.prog.cellsOf 90 = 8 := by kernel_rfl
theorem pa90 : ∀ (cs : List AV) (o : Nat), partA Try.prog 90 cs o = if o + 8 ≤ cs.length then some (.agg ((cs.drop o).take 8)) else none := paT' agg90 cel90
theorem lv90 : ∀ (xs : List AV), loadV Try.prog 90 (.agg xs) 0 = if xs.length = 8 then some (.agg xs) else if 0 + 8 ≤ xs.length then some (.agg ((xs.drop 0).take 8)) else none := lvT' agg90 cel90
theorem st90 : ∀ (id tot i off : Nat) (x : AV) (g : Nat → Option Ob), opStore Try.prog 90 (.ptr id tot i off) x g = stO 8 id tot i off x (g id) := stT cel90 rfl
theorem zr90 : zeroA Try.prog 90 = some (.agg [(.int .u8 0), (.int .u8 0), (.int .u8 0), (.int .u8 0), (.int .u8 0), (.int .u8 0), (.int .u8 0), (.int .u8 0)]) := by kernel_rfl
theorem by90 : Try.prog.bytesOf 90 = 8 := by kernel_rfl
theorem zo90 : zeroOk Try.prog 90 = true := by kernel_rfl
theorem agg98 : aggT Try.prog 98 = some false := by kernel_rfl
theorem cel98 : Try.prog.cellsOf 98 = 1 := by kernel_rfl
theorem pa98 : ∀ (cs : List AV) (o : Nat), partA Try.prog 98 cs o = cs[o]? := paT agg98
theorem lv98 : ∀ (v : AV) (o : Nat), loadV Try.prog 98 v o = v.cells[o]? := lvT agg98
theorem st98 : ∀ (id tot i off : Nat) (x : AV) (g : Nat → Option Ob), opStore Try.prog 98 (.ptr id tot i off) x g = stO 1 id tot i off x (g id) := stT cel98 rfl
theorem zr98 : zeroA Try.prog 98 = some (.int .u64 0) := by kernel_rfl
theorem by98 : Try.prog.bytesOf 98 = 8 := by kernel_rfl
theorem zo98 : zeroOk Try.prog 98 = true := by kernel_rfl
theorem sle22 : sliceElem Try.prog 22 = some 43 := by kernel_rfl
theorem hi22 : hasInfo Try.prog 22 = true := by kernel_rfl
theorem ln22 : ∀ (xs : List AV) (g : Nat → Option Ob), opLen Try.prog 22 (.lst xs) g = some (.int .i64 xs.length) := lenT_lst sle22
theorem lz22 : ∀ (g : Nat → Option Ob), opLen Try.prog 22 .nil0 g = some (.int .i64 0) := lenT_nil0 sle22
theorem ls22 : ∀ (id tot off len : Nat) (g : Nat → Option Ob), opLen Try.prog 22 (.sl id tot off len) g = lenO tot len (g id) := lenT_sl sle22
theorem ia22 : ∀ (xs : List AV) (k : IntKind) (i : Nat) (g : Nat → Option Ob), opIndexAddr Try.prog 22 (.lst xs) (.int k i) g = idxO 5 xs[i]? := iaT_lst sle22 cel43
theorem iz22 : ∀ (xs : List AV) (k : IntKind) (g : Nat → Option Ob), opIndexAddr Try.prog 22 (.lst xs) (.int k 0) g = idxO 5 xs[0]? := iaT_lst0 sle22 cel43
theorem is22 : ∀ (id tot off len : Nat) (k : IntKind) (n : Int) (g : Nat → Option Ob), opIndexAddr Try.prog 22 (.sl id tot off len) (.int k n) g = iaO 5 id tot off len n (g id) := iaT_sl sle22 cel43
theorem ap22 : ∀ (s x : AV) (g : Nat → Option Ob) (nid : Nat), opAppend Try.prog 22 s x g nid = apO 43 5 72 nid s g (rdS g x) := apT sle22 zo43 cel43 by43
theorem bz22 : ∀ (nid : Nat), opBuildSlice Try.prog 22 0 [] nid = some (.nil0, .non) := bsT0 sle22 zo43
theorem bs22 : ∀ (parts : List (Nat × AV)) (nid : Nat), opBuildSlice Try.prog 22 1 parts nid = bsO 43 5 (.agg [(.int .i64 0), (.int .i64 0), (.int .i64 0), .nil0, .nil0]) 1 parts nid := bsT sle22 zo43 cel43 zr43 rfl rfl rfl
theorem ms22 : ∀ (k k' : IntKind) (n m : Int) (nid : Nat), opMakeSlice Try.prog 22 (.int k n) (.int k' m) nid = msO 43 5 72 (.agg [(.int .i64 0), (.int .i64 0), (.int .i64 0), .nil0, .nil0]) n m nid := msT sle22 zo43 cel43 by43 zr43 rfl rfl
theorem sle23 : sliceElem Try.prog 23 = some 3 := by kernel_rfl
theorem hi23 : hasInfo Try.prog 23 = true := by kernel_rfl
theorem ln23 : ∀ (xs : List AV) (g : Nat → Option Ob), opLen Try.prog 23 (.lst xs) g = some (.int .i64 xs.length) := lenT_lst sle23
theorem lz23 : ∀ (g : Nat → Option Ob), opLen Try.prog 23 .nil0 g = some (.int .i64 0) := lenT_nil0 sle23
theorem ls23 : ∀ (id tot off len : Nat) (g : Nat → Option Ob), opLen Try.prog 23 (.sl id tot off len) g = lenO tot len (g id) := lenT_sl sle23
theorem ia23 : ∀ (xs : List AV) (k : IntKind) (i : Nat) (g : Nat → Option Ob), opIndexAddr Try.prog 23 (.lst xs) (.int k i) g = idxO 1 xs[i]? := iaT_lst sle23 cel3
theorem iz23 : ∀ (xs : List AV) (k : IntKind) (g : Nat → Option Ob), opIndexAddr Try.prog 23 (.lst xs) (.int k 0) g = idxO 1 xs[0]? := iaT_lst0 sle23 cel3
theorem is23 : ∀ (id tot off len : Nat) (k : IntKind) (n : Int) (g : Nat → Option Ob), opIndexAddr Try.prog 23 (.sl id tot off len) (.int k n) g = iaO 1 id tot off len n (g id) := iaT_sl sle23 cel3
theorem ap23 : ∀ (s x : AV) (g : Nat → Option Ob) (nid : Nat), opAppend Try.prog 23 s x g nid = apO 3 1 8 nid s g (rdS g x) := apT sle23 zo3 cel3 by3
theorem bz23 : ∀ (nid : Nat), opBuildSlice Try.prog 23 0 [] nid = some (.nil0, .non) := bsT0 sle23 zo3
theorem bs23 : ∀ (parts : List (Nat × AV)) (nid : Nat), opBuildSlice Try.prog 23 1 parts nid = bsO 3 1 (.int .i64 0) 1 parts nid := bsT sle23 zo3 cel3 zr3 rfl rfl rfl
theorem ms23 : ∀ (k k' : IntKind) (n m : Int) (nid : Nat), opMakeSlice Try.prog 23 (.int k n) (.int k' m) nid = msO 3 1 8 (.int .i64 0) n m nid := msT sle23 zo3 cel3 by3 zr3 rfl rfl
theorem sle24 : sliceElem Try.prog 24 = some 4 := by kernel_rfl
theorem hi24 : hasInfo Try.prog 24 = true := by kernel_rfl
theorem ln24 : ∀ (xs : List AV) (g : Nat → Option Ob), opLen Try.prog 24 (.lst xs) g = some (.int .i64 xs.length) := lenT_lst sle24
theorem lz24 : ∀ (g : Nat → Option Ob), opLen Try.prog 24 .nil0 g = some (.int .i64 0) := lenT_nil0 sle24
theorem ls24 : ∀ (id tot off len : Nat) (g : Nat → Option Ob), opLen Try.prog 24 (.sl id tot off len) g = lenO tot len (g id) := lenT_sl sle24
theorem ia24 : ∀ (xs : List AV) (k : IntKind) (i : Nat) (g : Nat → Option Ob), opIndexAddr Try.prog 24 (.lst xs) (.int k i) g = idxO 1 xs[i]? := iaT_lst sle24 cel4
theorem iz24 : ∀ (xs : List AV) (k : IntKind) (g : Nat → Option Ob), opIndexAddr Try.prog 24 (.lst xs) (.int k 0) g = idxO 1 xs[0]? := iaT_lst0 sle24 cel4
theorem is24 : ∀ (id tot off len : Nat) (k : IntKind) (n : Int) (g : Nat → Option Ob), opIndexAddr Try.prog 24 (.sl id tot off len) (.int k n) g = iaO 1 id tot off len n (g id) := iaT_sl sle24 cel4
theorem ap24 : ∀ (s x : AV) (g : Nat → Option Ob) (nid : Nat), opAppend Try.prog 24 s x g nid = apO 4 1 1 nid s g (rdS g x) := apT sle24 zo4 cel4 by4
theorem bz24 : ∀ (nid : Nat), opBuildSlice Try.prog 24 0 [] nid = some (.nil0, .non) := bsT0 sle24 zo4
theorem bs24 : ∀ (parts : List (Nat × AV)) (nid : Nat), opBuildSlice Try.prog 24 1 parts nid = bsO 4 1 (.bool false) 1 parts nid := bsT sle24 zo4 cel4 zr4 rfl rfl rfl
theorem ms24 : ∀ (k k' : IntKind) (n m : Int) (nid : Nat), opMakeSlice Try.prog 24 (.int k n) (.int k' m) nid = msO 4 1 1 (.bool false) n m nid := msT sle24 zo4 cel4 by4 zr4 rfl rfl
theorem fo26x0 : fieldTO Try.prog 26 0 = some (3, 0) := by kernel_rfl
theorem fp26x0 : ∀ (id tot i off : Nat), opFieldAddr Try.prog 26 (.ptr id tot i off) 0 = some (.ptr id tot i (off + 0)) := fpT fo26x0 (by kernel_rfl)
theorem fc26x0 : ∀ (v : AV), opFieldAddr Try.prog 26 (.cptr v) 0 = fcO false (partA Try.prog 3 v.cells 0) := fcT fo26x0 (by kernel_rfl) (by kernel_rfl)
theorem fg26x0 : ∀ (xs : List AV), opField Try.prog 26 (.agg xs) 0 = partA Try.prog 3 xs 0 := fgT fo26x0
theorem fo26x1 : fieldTO Try.prog 26 1 = some (22, 1) := by kernel_rfl
theorem fp26x1 : ∀ (id tot i off : Nat), opFieldAddr Try.prog 26 (.ptr id tot i off) 1 = some (.ptr id tot i (off + 1)) := fpT fo26x1 (by kernel_rfl)
theorem fc26x1 : ∀ (v : AV), opFieldAddr Try.prog 26 (.cptr v) 1 = fcO false (partA Try.prog 22 v.cells 1) := fcT fo26x1 (by kernel_rfl) (by kernel_rfl)
theorem fg26x1 : ∀ (xs : List AV), opField Try.prog 26 (.agg xs) 1 = partA Try.prog 22 xs 1 := fgT fo26x1
theorem fo26x2 : fieldTO Try.prog 26 2 = some (23, 2) := by kernel_rfl
theorem fp26x2 : ∀ (id tot i off : Nat), opFieldAddr Try.prog 26 (.ptr id tot i off) 2 = some (.ptr id tot i (off + 2)) := fpT fo26x2 (by kernel_rfl)
theorem fc26x2 : ∀ (v : AV), opFieldAddr Try.prog 26 (.cptr v) 2 = fcO false (partA Try.prog 23 v.cells 2) := fcT fo26x2 (by kernel_rfl) (by kernel_rfl)
theorem fg26x2 : ∀ (xs : List AV), opField Try.prog 26 (.agg xs) 2 = partA Try.prog 23 xs 2 := fgT fo26x2
theorem fo26x3 : fieldTO Try.prog 26 3 = some (24, 3) := by kernel_rfl
theorem fp26x3 : ∀ (id tot i off : Nat), opFieldAddr Try.prog 26 (.ptr id tot i off) 3 = some (.ptr id tot i (off + 3)) := fpT fo26x3 (by kernel_rfl)
theorem fc26x3 : ∀ (v : AV), opFieldAddr Try.prog 26 (.cptr v) 3 = fcO false (partA Try.prog 24 v.cells 3) := fcT fo26x3 (by kernel_rfl) (by kernel_rfl)
theorem fg26x3 : ∀ (xs : List AV), opField Try.prog 26 (.agg xs) 3 = partA Try.prog 24 xs 3 := fgT fo26x3
theorem bd26 : ∀ parts : List (Nat × AV), opBuild Try.prog 26 parts = bdO [(0, 1), (1, 1), (2, 1), (3, 1)] [(.int .i64 0), .nil0, .nil0, .nil0] parts := bdT (by kernel_rfl) zr26
theorem fo28x0 : fieldTO Try.prog 28 0 = some (3, 0) := by kernel_rfl
theorem fp28x0 : ∀ (id tot i off : Nat), opFieldAddr Try.prog 28 (.ptr id tot i off) 0 = some (.ptr id tot i (off + 0)) := fpT fo28x0 (by kernel_rfl)
theorem fc28x0 : ∀ (v : AV), opFieldAddr Try.prog 28 (.cptr v) 0 = fcO false (partA Try.prog 3 v.cells 0) := fcT fo28x0 (by kernel_rfl) (by kernel_rfl)
theorem fg28x0 : ∀ (xs : List AV), opField Try.prog 28 (.agg xs) 0 = partA Try.prog 3 xs 0 := fgT fo28x0
theorem fo28x1 : fieldTO Try.prog 28 1 = some (3, 1) := by kernel_rfl
theorem fp28x1 : ∀ (id tot i off : Nat), opFieldAddr Try.prog 28 (.ptr id tot i off) 1 = some (.ptr id tot i (off + 1)) := fpT fo28x1 (by kernel_rfl)
theorem fc28x1 : ∀ (v : AV), opFieldAddr Try.prog 28 (.cptr v) 1 = fcO false (partA Try.prog 3 v.cells 1) := fcT fo28x1 (by kernel_rfl) (by kernel_rfl)
theorem fg28x1 : ∀ (xs : List AV), opField Try.prog 28 (.agg xs) 1 = partA Try.prog 3 xs 1 := fgT fo28x1
theorem fo28x2 : fieldTO Try.prog 28 2 = some (3, 2) := by kernel_rfl
theorem fp28x2 : ∀ (id tot i off : Nat), opFieldAddr Try.prog 28 (.ptr id tot i off) 2 = some (.ptr id tot i (off + 2)) := fpT fo28x2 (by kernel_rfl)
theorem fc28x2 : ∀ (v : AV), opFieldAddr Try.prog 28 (.cptr v) 2 = fcO false (partA Try.prog 3 v.cells 2) := fcT fo28x2 (by kernel_rfl) (by kernel_rfl)
theorem fg28x2 : ∀ (xs : List AV), opField Try.prog 28 (.agg xs) 2 = partA Try.prog 3 xs 2 := fgT fo28x2
theorem bd28 : ∀ parts : List (Nat × AV), opBuild Try.prog 28 parts = bdO [(0, 1), (1, 1), (2, 1)] [(.int .i64 0), (.int .i64 0), (.int .i64 0)] parts := bdT (by kernel_rfl) zr28
theorem sle41 : sliceElem Try.prog 41 = some 85 := by kernel_rfl
theorem hi41 : hasInfo Try.prog 41 = true := by kernel_rfl
theorem ln41 : ∀ (xs : List AV) (g : Nat → Option Ob), opLen Try.prog 41 (.lst xs) g = some (.int .i64 xs.length) := lenT_lst sle41
theorem lz41 : ∀ (g : Nat → Option Ob), opLen Try.prog 41 .nil0 g = some (.int .i64 0) := lenT_nil0 sle41
theorem ls41 : ∀ (id tot off len : Nat) (g : Nat → Option Ob), opLen Try.prog 41 (.sl id tot off len) g = lenO tot len (g id) := lenT_sl sle41
theorem ia41 : ∀ (xs : List AV) (k : IntKind) (i : Nat) (g : Nat → Option Ob), opIndexAddr Try.prog 41 (.lst xs) (.int k i) g = idxO 3 xs[i]? := iaT_lst sle41 cel85
theorem iz41 : ∀ (xs : List AV) (k : IntKind) (g : Nat → Option Ob), opIndexAddr Try.prog 41 (.lst xs) (.int k 0) g = idxO 3 xs[0]? := iaT_lst0 sle41 cel85
theorem is41 : ∀ (id tot off len : Nat) (k : IntKind) (n : Int) (g : Nat → Option Ob), opIndexAddr Try.prog 41 (.sl id tot off len) (.int k n) g = iaO 3 id tot off len n (g id) := iaT_sl sle41 cel85
theorem ap41 : ∀ (s x : AV) (g : Nat → Option Ob) (nid : Nat), opAppend Try.prog 41 s x g nid = apO 85 3 40 nid s g (rdS g x) := apT sle41 zo85 cel85 by85
theorem bz41 : ∀ (nid : Nat), opBuildSlice Try.prog 41 0 [] nid = some (.nil0, .non) := bsT0 sle41 zo85
theorem bs41 : ∀ (parts : List (Nat × AV)) (nid : Nat), opBuildSlice Try.prog 41 1 parts nid = bsO 85 3 (.agg [(.int .i64 0), (.int .i64 0), .nil0]) 1 parts nid := bsT sle41 zo85 cel85 zr85 rfl rfl rfl
theorem ms41 : ∀ (k k' : IntKind) (n m : Int) (nid : Nat), opMakeSlice Try.prog 41 (.int k n) (.int k' m) nid = msO 85 3 40 (.agg [(.int .i64 0), (.int .i64 0), .nil0]) n m nid := msT sle41 zo85 cel85 by85 zr85 rfl rfl
theorem fo43x0 : fieldTO Try.prog 43 0 = some (3, 0) := by kernel_rfl
theorem fp43x0 : ∀ (id tot i off : Nat), opFieldAddr Try.prog 43 (.ptr id tot i off) 0 = some (.ptr id tot i (off + 0)) := fpT fo43x0 (by kernel_rfl)
theorem fc43x0 : ∀ (v : AV), opFieldAddr Try.prog 43 (.cptr v) 0 = fcO false (partA Try.prog 3 v.cells 0) := fcT fo43x0 (by kernel_rfl) (by kernel_rfl)
theorem fg43x0 : ∀ (xs : List AV), opField Try.prog 43 (.agg xs) 0 = partA Try.prog 3 xs 0 := fgT fo43x0
theorem fo43x1 : fieldTO Try.prog 43 1 = some (3, 1) := by kernel_rfl
theorem fp43x1 : ∀ (id tot i off : Nat), opFieldAddr Try.prog 43 (.ptr id tot i off) 1 = some (.ptr id tot i (off + 1)) := fpT fo43x1 (by kernel_rfl)
theorem fc43x1 : ∀ (v : AV), opFieldAddr Try.prog 43 (.cptr v) 1 = fcO false (partA Try.prog 3 v.cells 1) := fcT fo43x1 (by kernel_rfl) (by kernel_rfl)
theorem fg43x1 : ∀ (xs : List AV), opField Try.prog 43 (.agg xs) 1 = partA Try.prog 3 xs 1 := fgT fo43x1
theorem fo43x2 : fieldTO Try.prog 43 2 = some (3, 2) := by kernel_rfl
theorem fp43x2 : ∀ (id tot i off : Nat), opFieldAddr Try.prog 43 (.ptr id tot i off) 2 = some (.ptr id tot i (off + 2)) := fpT fo43x2 (by kernel_rfl)
theorem fc43x2 : ∀ (v : AV), opFieldAddr Try.prog 43 (.cptr v) 2 = fcO false (partA Try.prog 3 v.cells 2) := fcT fo43x2 (by kernel_rfl) (by kernel_rfl)
theorem fg43x2 : ∀ (xs : List AV), opField Try.prog 43 (.agg xs) 2 = partA Try.prog 3 xs 2 := fgT fo43x2
theorem fo43x3 : fieldTO Try.prog 43 3 = some (23, 3) := by kernel_rfl
theorem fp43x3 : ∀ (id tot i off : Nat), opFieldAddr Try.prog 43 (.ptr id tot i off) 3 = some (.ptr id tot i (off + 3)) := fpT fo43x3 (by kernel_rfl)
theorem fc43x3 : ∀ (v : AV), opFieldAddr Try.prog 43 (.cptr v) 3 = fcO false (partA Try.prog 23 v.cells 3) := fcT fo43x3 (by kernel_rfl) (by kernel_rfl)
theorem fg43x3 : ∀ (xs : List AV), opField Try.prog 43 (.agg xs) 3 = partA Try.prog 23 xs 3 := fgT fo43x3
theorem fo43x4 : fieldTO Try.prog 43 4 = some (41, 4) := by kernel_rfl
theorem fp43x4 : ∀ (id tot i off : Nat), opFieldAddr Try.prog 43 (.ptr id tot i off) 4 = some (.ptr id tot i (off + 4)) := fpT fo43x4 (by kernel_rfl)
theorem fc43x4 : ∀ (v : AV), opFieldAddr Try.prog 43 (.cptr v) 4 = fcO false (partA Try.prog 41 v.cells 4) := fcT fo43x4 (by kernel_rfl) (by kernel_rfl)
theorem fg43x4 : ∀ (xs : List AV), opField Try.prog 43 (.agg xs) 4 = partA Try.prog 41 xs 4 := fgT fo43x4
theorem bd43 : ∀ parts : List (Nat × AV), opBuild Try.prog 43 parts = bdO [(0, 1), (1, 1), (2, 1), (3, 1), (4, 1)] [(.int .i64 0), (.int .i64 0), (.int .i64 0), .nil0, .nil0] parts := bdT (by kernel_rfl) zr43
theorem sle72 : sliceElem Try.prog 72 = some 83 := by kernel_rfl
theorem hi72 : hasInfo Try.prog 72 = true := by kernel_rfl
theorem ln72 : ∀ (xs : List AV) (g : Nat → Option Ob), opLen Try.prog 72 (.lst xs) g = some (.int .i64 xs.length) := lenT_lst sle72
theorem lz72 : ∀ (g : Nat → Option Ob), opLen Try.prog 72 .nil0 g = some (.int .i64 0) := lenT_nil0 sle72
theorem ls72 : ∀ (id tot off len : Nat) (g : Nat → Option Ob), opLen Try.prog 72 (.sl id tot off len) g = lenO tot len (g id) := lenT_sl sle72
theorem ia72 : ∀ (xs : List AV) (k : IntKind) (i : Nat) (g : Nat → Option Ob), opIndexAddr Try.prog 72 (.lst xs) (.int k i) g = idxO 1 xs[i]? := iaT_lst sle72 cel83
theorem iz72 : ∀ (xs : List AV) (k : IntKind) (g : Nat → Option Ob), opIndexAddr Try.prog 72 (.lst xs) (.int k 0) g = idxO 1 xs[0]? := iaT_lst0 sle72 cel83
theorem is72 : ∀ (id tot off len : Nat) (k : IntKind) (n : Int) (g : Nat → Option Ob), opIndexAddr Try.prog 72 (.sl id tot off len) (.int k n) g = iaO 1 id tot off len n (g id) := iaT_sl sle72 cel83
theorem ap72 : ∀ (s x : AV) (g : Nat → Option Ob) (nid : Nat), opAppend Try.prog 72 s x g nid = apO 83 1 24 nid s g (rdS g x) := apT sle72 zo83 cel83 by83
theorem bz72 : ∀ (nid : Nat), opBuildSlice Try.prog 72 0 [] nid = some (.nil0, .non) := bsT0 sle72 zo83
theorem bs72 : ∀ (parts : List (Nat × AV)) (nid : Nat), opBuildSlice Try.prog 72 1 parts nid = bsO 83 1 .nil0 1 parts nid := bsT sle72 zo83 cel83 zr83 rfl rfl rfl
theorem ms72 : ∀ (k k' : IntKind) (n m : Int) (nid : Nat), opMakeSlice Try.prog 72 (.int k n) (.int k' m) nid = msO 83 1 24 .nil0 n m nid := msT sle72 zo83 cel83 by83 zr83 rfl rfl
theorem sle73 : sliceElem Try.prog 73 = some 83 := by kernel_rfl
theorem hi73 : hasInfo Try.prog 73 = true := by kernel_rfl
theorem ln73 : ∀ (xs : List AV) (g : Nat → Option Ob), opLen Try.prog 73 (.lst xs) g = some (.int .i64 xs.length) := lenT_lst sle73
theorem lz73 : ∀ (g : Nat → Option Ob), opLen Try.prog 73 .nil0 g = some (.int .i64 0) := lenT_nil0 sle73
theorem ls73 : ∀ (id tot off len : Nat) (g : Nat → Option Ob), opLen Try.prog 73 (.sl id tot off len) g = lenO tot len (g id) := lenT_sl sle73
theorem ia73 : ∀ (xs : List AV) (k : IntKind) (i : Nat) (g : Nat → Option Ob), opIndexAddr Try.prog 73 (.lst xs) (.int k i) g = idxO 1 xs[i]? := iaT_lst sle73 cel83
theorem iz73 : ∀ (xs : List AV) (k : IntKind) (g : Nat → Option Ob), opIndexAddr Try.prog 73 (.lst xs) (.int k 0) g = idxO 1 xs[0]? := iaT_lst0 sle73 cel83
theorem is73 : ∀ (id tot off len : Nat) (k : IntKind) (n : Int) (g : Nat → Option Ob), opIndexAddr Try.prog 73 (.sl id tot off len) (.int k n) g = iaO 1 id tot off len n (g id) := iaT_sl sle73 cel83
theorem ap73 : ∀ (s x : AV) (g : Nat → Option Ob) (nid : Nat), opAppend Try.prog 73 s x g nid = apO 83 1 24 nid s g (rdS g x) := apT sle73 zo83 cel83 by83
theorem bz73 : ∀ (nid : Nat), opBuildSlice Try.prog 73 0 [] nid = some (.nil0, .non) := bsT0 sle73 zo83
theorem bs73 : ∀ (parts : List (Nat × AV)) (nid : Nat), opBuildSlice Try.prog 73 1 parts nid = bsO 83 1 .nil0 1 parts nid := bsT sle73 zo83 cel83 zr83 rfl rfl rfl
theorem ms73 : ∀ (k k' : IntKind) (n m : Int) (nid : Nat), opMakeSlice Try.prog 73 (.int k n) (.int k' m) nid = msO 83 1 24 .nil0 n m nid := msT sle73 zo83 cel83 by83 zr83 rfl rfl
theorem sle83 : sliceElem Try.prog 83 = some 90 := by kernel_rfl
theorem hi83 : hasInfo Try.prog 83 = true := by kernel_rfl
theorem ln83 : ∀ (xs : List AV) (g : Nat → Option Ob), opLen Try.prog 83 (.lst xs) g = some (.int .i64 xs.length) := lenT_lst sle83
theorem lz83 : ∀ (g : Nat → Option Ob), opLen Try.prog 83 .nil0 g = some (.int .i64 0) := lenT_nil0 sle83
theorem ls83 : ∀ (id tot off len : Nat) (g : Nat → Option Ob), opLen Try.prog 83 (.sl id tot off len) g = lenO tot len (g id) := lenT_sl sle83
theorem ia83 : ∀ (xs : List AV) (k : IntKind) (i : Nat) (g : Nat → Option Ob), opIndexAddr Try.prog 83 (.lst xs) (.int k i) g = idxO 8 xs[i]? := iaT_lst sle83 cel90
theorem iz83 : ∀ (xs : List AV) (k : IntKind) (g : Nat → Option Ob), opIndexAddr Try.prog 83 (.lst xs) (.int k 0) g = idxO 8 xs[0]? := iaT_lst0 sle83 cel90
theorem is83 : ∀ (id tot off len : Nat) (k : IntKind) (n : Int) (g : Nat → Option Ob), opIndexAddr Try.prog 83 (.sl id tot off len) (.int k n) g = iaO 8 id tot off len n (g id) := iaT_sl sle83 cel90
theorem ap83 : ∀ (s x : AV) (g : Nat → Option Ob) (nid : Nat), opAppend Try.prog 83 s x g nid = apO 90 8 8 nid s g (rdS g x) := apT sle83 zo90 cel90 by90
theorem bz83 : ∀ (nid : Nat), opBuildSlice Try.prog 83 0 [] nid = some (.nil0, .non) := bsT0 sle83 zo90
theorem bs83 : ∀ (parts : List (Nat × AV)) (nid : Nat), opBuildSlice Try.prog 83 1 parts nid = bsO 90 8 (.agg [(.int .u8 0), (.int .u8 0), (.int .u8 0), (.int .u8 0), (.int .u8 0), (.int .u8 0), (.int .u8 0), (.int .u8 0)]) 1 parts nid := bsT sle83 zo90 cel90 zr90 rfl rfl rfl
theorem ms83 : ∀ (k k' : IntKind) (n m : Int) (nid : Nat), opMakeSlice Try.prog 83 (.int k n) (.int k' m) nid = msO 90 8 8 (.agg [(.int .u8 0), (.int .u8 0), (.int .u8 0), (.int .u8 0), (.int .u8 0), (.int .u8 0), (.int .u8 0), (.int .u8 0)]) n m nid := msT sle83 zo90 cel90 by90 zr90 rfl rfl
theorem fo85x0 : fieldTO Try.prog 85 0 = some (3, 0) := by kernel_rfl
theorem fp85x0 : ∀ (id tot i off : Nat), opFieldAddr Try.prog 85 (.ptr id tot i off) 0 = some (.ptr id tot i (off + 0)) := fpT fo85x0 (by kernel_rfl)
theorem fc85x0 : ∀ (v : AV), opFieldAddr Try.prog 85 (.cptr v) 0 = fcO false (partA Try.prog 3 v.cells 0) := fcT fo85x0 (by kernel_rfl) (by kernel_rfl)
theorem fg85x0 : ∀ (xs : List AV), opField Try.prog 85 (.agg xs) 0 = partA Try.prog 3 xs 0 := fgT fo85x0
theorem fo85x1 : fieldTO Try.prog 85 1 = some (3, 1) := by kernel_rfl
theorem fp85x1 : ∀ (id tot i off : Nat), opFieldAddr Try.prog 85 (.ptr id tot i off) 1 = some (.ptr id tot i (off + 1)) := fpT fo85x1 (by kernel_rfl)
theorem fc85x1 : ∀ (v : AV), opFieldAddr Try.prog 85 (.cptr v) 1 = fcO false (partA Try.prog 3 v.cells 1) := fcT fo85x1 (by kernel_rfl) (by kernel_rfl)
theorem fg85x1 : ∀ (xs : List AV), opField Try.prog 85 (.agg xs) 1 = partA Try.prog 3 xs 1 := fgT fo85x1
theorem fo85x2 : fieldTO Try.prog 85 2 = some (83, 2) := by kernel_rfl
theorem fp85x2 : ∀ (id tot i off : Nat), opFieldAddr Try.prog 85 (.ptr id tot i off) 2 = some (.ptr id tot i (off + 2)) := fpT fo85x2 (by kernel_rfl)
theorem fc85x2 : ∀ (v : AV), opFieldAddr Try.prog 85 (.cptr v) 2 = fcO false (partA Try.prog 83 v.cells 2) := fcT fo85x2 (by kernel_rfl) (by kernel_rfl)
theorem fg85x2 : ∀ (xs : List AV), opField Try.prog 85 (.agg xs) 2 = partA Try.prog 83 xs 2 := fgT fo85x2
theorem bd85 : ∀ parts : List (Nat × AV), opBuild Try.prog 85 parts = bdO [(0, 1), (1, 1), (2, 1)] [(.int .i64 0), (.int .i64 0), .nil0] parts := bdT (by kernel_rfl) zr85
theorem mixed : Try.prog.follows .mixedOrders = true := by kernel_rfl
theorem ty3 : type_of% pa3 ∧ type_of% lv3 ∧ type_of% st3 ∧ type_of% zr3 := ⟨pa3, lv3, st3, zr3⟩
theorem ty4 : type_of% pa4 ∧ type_of% lv4 ∧ type_of% st4 ∧ type_of% zr4 ∧ type_of% ib4 := ⟨pa4, lv4, st4, zr4, ib4⟩
theorem ty5 : type_of% pa5 ∧ type_of% lv5 ∧ type_of% st5 ∧ type_of% zr5 := ⟨pa5, lv5, st5, zr5⟩
theorem ty22 : type_of% pa22 ∧ type_of% lv22 ∧ type_of% st22 ∧ type_of% zr22 ∧ type_of% hi22 ∧ type_of% ln22 ∧ type_of% lz22 ∧ type_of% ls22 ∧ type_of% ia22 ∧ type_of% iz22 ∧ type_of% is22 ∧ type_of% ap22 ∧ type_of% bz22 ∧ type_of% bs22 ∧ type_of% ms22 := ⟨pa22, lv22, st22, zr22, hi22, ln22, lz22, ls22, ia22, iz22, is22, ap22, bz22, bs22, ms22⟩
theorem ty23 : type_of% pa23 ∧ type_of% lv23 ∧ type_of% st23 ∧ type_of% zr23 ∧ type_of% hi23 ∧ type_of% ln23 ∧ type_of% lz23 ∧ type_of% ls23 ∧ type_of% ia23 ∧ type_of% iz23 ∧ type_of% is23 ∧ type_of% ap23 ∧ type_of% bz23 ∧ type_of% bs23 ∧ type_of% ms23 := ⟨pa23, lv23, st23, zr23, hi23, ln23, lz23, ls23, ia23, iz23, is23, ap23, bz23, bs23, ms23⟩
theorem ty24 : type_of% pa24 ∧ type_of% lv24 ∧ type_of% st24 ∧ type_of% zr24 ∧ type_of% hi24 ∧ type_of% ln24 ∧ type_of% lz24 ∧ type_of% ls24 ∧ type_of% ia24 ∧ type_of% iz24 ∧ type_of% is24 ∧ type_of% ap24 ∧ type_of% bz24 ∧ type_of% bs24 ∧ type_of% ms24 := ⟨pa24, lv24, st24, zr24, hi24, ln24, lz24, ls24, ia24, iz24, is24, ap24, bz24, bs24, ms24⟩
theorem ty26 : type_of% pa26 ∧ type_of% lv26 ∧ type_of% st26 ∧ type_of% zr26 ∧ type_of% fp26x0 ∧ type_of% fc26x0 ∧ type_of% fg26x0 ∧ type_of% fp26x1 ∧ type_of% fc26x1 ∧ type_of% fg26x1 ∧ type_of% fp26x2 ∧ type_of% fc26x2 ∧ type_of% fg26x2 ∧ type_of% fp26x3 ∧ type_of% fc26x3 ∧ type_of% fg26x3 ∧ type_of% bd26 := ⟨pa26, lv26, st26, zr26, fp26x0, fc26x0, fg26x0, fp26x1, fc26x1, fg26x1, fp26x2, fc26x2, fg26x2, fp26x3, fc26x3, fg26x3, bd26⟩
theorem ty28 : type_of% pa28 ∧ type_of% lv28 ∧ type_of% st28 ∧ type_of% zr28 ∧ type_of% fp28x0 ∧ type_of% fc28x0 ∧ type_of% fg28x0 ∧ type_of% fp28x1 ∧ type_of% fc28x1 ∧ type_of% fg28x1 ∧ type_of% fp28x2 ∧ type_of% fc28x2 ∧ type_of% fg28x2 ∧ type_of% bd28 := ⟨pa28, lv28, st28, zr28, fp28x0, fc28x0, fg28x0, fp28x1, fc28x1, fg28x1, fp28x2, fc28x2, fg28x2, bd28⟩
theorem ty31 : type_of% pa31 ∧ type_of% lv31 ∧ type_of% st31 ∧ type_of% zr31 := ⟨pa31, lv31, st31, zr31⟩
theorem ty40 : type_of% pa40 ∧ type_of% lv40 ∧ type_of% st40 ∧ type_of% zr40 := ⟨pa40, lv40, st40, zr40⟩
theorem ty41 : type_of% pa41 ∧ type_of% lv41 ∧ type_of% st41 ∧ type_of% zr41 ∧ type_of% hi41 ∧ type_of% ln41 ∧ type_of% lz41 ∧ type_of% ls41 ∧ type_of% ia41 ∧ type_of% iz41 ∧ type_of% is41 ∧ type_of% ap41 ∧ type_of% bz41 ∧ type_of% bs41 ∧ type_of% ms41 := ⟨pa41, lv41, st41, zr41, hi41, ln41, lz41, ls41, ia41, iz41, is41, ap41, bz41, bs41, ms41⟩
theorem ty43 : type_of% pa43 ∧ type_of% lv43 ∧ type_of% st43 ∧ type_of% zr43 ∧ type_of% fp43x0 ∧ type_of% fc43x0 ∧ type_of% fg43x0 ∧ type_of% fp43x1 ∧ type_of% fc43x1 ∧ type_of% fg43x1 ∧ type_of% fp43x2 ∧ type_of% fc43x2 ∧ type_of% fg43x2 ∧ type_of% fp43x3 ∧ type_of% fc43x3 ∧ type_of% fg43x3 ∧ type_of% fp43x4 ∧ type_of% fc43x4 ∧ type_of% fg43x4 ∧ type_of% bd43 := ⟨pa43, lv43, st43, zr43, fp43x0, fc43x0, fg43x0, fp43x1, fc43x1, fg43x1, fp43x2, fc43x2, fg43x2, fp43x3, fc43x3, fg43x3, fp43x4, fc43x4, fg43x4, bd43⟩
theorem ty53 : type_of% pa53 ∧ type_of% lv53 ∧ type_of% st53 ∧ type_of% zr53 := ⟨pa53, lv53, st53, zr53⟩
theorem ty67 : type_of% pa67 ∧ type_of% lv67 ∧ type_of% st67 ∧ type_of% zr67 := ⟨pa67, lv67, st67, zr67⟩
theorem ty72 : type_of% pa72 ∧ type_of% lv72 ∧ type_of% st72 ∧ type_of% zr72 ∧ type_of% hi72 ∧ type_of% ln72 ∧ type_of% lz72 ∧ type_of% ls72 ∧ type_of% ia72 ∧ type_of% iz72 ∧ type_of% is72 ∧ type_of% ap72 ∧ type_of% bz72 ∧ type_of% bs72 ∧ type_of% ms72 := ⟨pa72, lv72, st72, zr72, hi72, ln72, lz72, ls72, ia72, iz72, is72, ap72, bz72, bs72, ms72⟩
theorem ty73 : type_of% pa73 ∧ type_of% lv73 ∧ type_of% st73 ∧ type_of% zr73 ∧ type_of% hi73 ∧ type_of% ln73 ∧ type_of% lz73 ∧ type_of% ls73 ∧ type_of% ia73 ∧ type_of% iz73 ∧ type_of% is73 ∧ type_of% ap73 ∧ type_of% bz73 ∧ type_of% bs73 ∧ type_of% ms73 := ⟨pa73, lv73, st73, zr73, hi73, ln73, lz73, ls73, ia73, iz73, is73, ap73, bz73, bs73, ms73⟩
theorem ty83 : type_of% pa83 ∧ type_of% lv83 ∧ type_of% st83 ∧ type_of% zr83 ∧ type_of% hi83 ∧ type_of% ln83 ∧ type_of% lz83 ∧ type_of% ls83 ∧ type_of% ia83 ∧ type_of% iz83 ∧ type_of% is83 ∧ type_of% ap83 ∧ type_of% bz83 ∧ type_of% bs83 ∧ type_of% ms83 := ⟨pa83, lv83, st83, zr83, hi83, ln83, lz83, ls83, ia83, iz83, is83, ap83, bz83, bs83, ms83⟩
theorem ty85 : type_of% pa85 ∧ type_of% lv85 ∧ type_of% st85 ∧ type_of% zr85 ∧ type_of% fp85x0 ∧ type_of% fc85x0 ∧ type_of% fg85x0 ∧ type_of% fp85x1 ∧ type_of% fc85x1 ∧ type_of% fg85x1 ∧ type_of% fp85x2 ∧ type_of% fc85x2 ∧ type_of% fg85x2 ∧ type_of% bd85 := ⟨pa85, lv85, st85, zr85, fp85x0, fc85x0, fg85x0, fp85x1, fc85x1, fg85x1, fp85x2, fc85x2, fg85x2, bd85⟩
theorem ty90 : type_of% pa90 ∧ type_of% lv90 ∧ type_of% st90 ∧ type_of% zr90 := ⟨pa90, lv90, st90, zr90⟩
theorem ty98 : type_of% pa98 ∧ type_of% lv98 ∧ type_of% st98 ∧ type_of% zr98 := ⟨pa98, lv98, st98, zr98⟩
theorem TY : ((((type_of% ty3) ∧ (type_of% ty4)) ∧ ((type_of% ty5) ∧ ((type_of% ty22) ∧ (type_of% ty23)))) ∧ (((type_of% ty24) ∧ (type_of% ty26)) ∧ ((type_of% ty28) ∧ ((type_of% ty31) ∧ (type_of% ty40))))) ∧ ((((type_of% ty41) ∧ (type_of% ty43)) ∧ ((type_of% ty53) ∧ ((type_of% ty67) ∧ (type_of% ty72)))) ∧ (((type_of% ty73) ∧ (type_of% ty83)) ∧ ((type_of% ty85) ∧ ((type_of% ty90) ∧ (type_of% ty98))))) := ⟨⟨⟨⟨ty3, ty4⟩, ⟨ty5, ⟨ty22, ty23⟩⟩⟩, ⟨⟨ty24, ty26⟩, ⟨ty28, ⟨ty31, ty40⟩⟩⟩⟩, ⟨⟨⟨ty41, ty43⟩, ⟨ty53, ⟨ty67, ty72⟩⟩⟩, ⟨⟨ty73, ty83⟩, ⟨ty85, ⟨ty90, ty98⟩⟩⟩⟩⟩
end Go.Proofs.Ytlmjpgmaefokdaa
end

section
set_option linter.unusedSimpArgs false
set_option linter.unusedVariables false
namespace Go.Proofs.Ytlmjpgmaefokdaa
open Go.Proofs
abbrev I (i : Int) : AV := .int .i64 i
abbrev B (b : Bool) : AV := .bool b

structure Sec where
  (a b c d e f g h : Int)
  deriving DecidableEq
def Sec.av (s : Sec) : AV := .agg [.int .u8 s.a, .int .u8 s.b, .int .u8 s.c, .int .u8 s.d, .int .u8 s.e, .int .u8 s.f, .int .u8 s.g, .int .u8 s.h]
theorem sec_cells (s : Sec) : s.av.cells.length = 8 := rfl
theorem sec_okc (s : Sec) : s.av.okc = true := rfl
theorem sec_isAgg (s : Sec) : s.av.isAgg = true := rfl
theorem sec_idf (s : Sec) : Idf s.av := by simp only [Sec.av, IDF, and_tt]
theorem sec_idf' (s : Sec) : Idf s.av = True := eq_true (sec_idf s)
theorem sec_ld (s : Sec) : loadV Try.prog 90 s.av 0 = some s.av := by simp only [Sec.av, ty90]; rfl
def sec0 : Sec := ⟨0, 0, 0, 0, 0, 0, 0, 0⟩
theorem sec_eq (x y : Sec) : (eqT Try.prog 10 90 x.av y.av) = some (decide (x = y)) := by
  have h : (eqT Try.prog 10 90 x.av y.av) = if (x.a == y.a) = true then (if (x.b == y.b) = true then (if (x.c == y.c) = true then (if (x.d == y.d) = true then (if (x.e == y.e) = true then (if (x.f == y.f) = true then (if (x.g == y.g) = true then (if (x.h == y.h) = true then some true else some false) else some false) else some false) else some false) else some false) else some false) else some false) else some false := by kernel_rfl
  rw [h]
  cases x; cases y
  simp only [beq_iff_eq, Sec.mk.injEq]
  repeat' split
  all_goals simp_all
theorem sec_guard : Try.prog.eqGuardType Try.prog.depth 90 = false := by kernel_rfl
theorem sec_neq (x y : Sec) : opBinAny Try.prog .neq 90 x.av y.av = some (.bool (!decide (x = y))) := by
  have := sec_eq x y
  unfold Sec.av at this ⊢
  simp only [opBinAny, opBin, opEq, sec_guard, if_true, this, Option.map_some]
theorem sec_eql (x y : Sec) : opBinAny Try.prog .eql 90 x.av y.av = some (.bool (decide (x = y))) := by
  have := sec_eq x y
  unfold Sec.av at this ⊢
  simp only [opBinAny, opBin, opEq, sec_guard, if_true, this, Option.map_some]

structure Wr where
  (vol start : Int)
  data : List Sec
  deriving DecidableEq
def Wr.av (w : Wr) : AV := .agg [I w.vol, I w.start, .lst (w.data.map Sec.av)]
structure Cyc where
  (base num time : Int)
  pos : List Int
  ws : List Wr
  deriving DecidableEq
def Cyc.av (c : Cyc) : AV := .agg [I c.base, I c.num, I c.time, .lst (c.pos.map I), .lst (c.ws.map Wr.av)]
structure Fan where
  limit : Int
  kept : List Cyc
  app : List Int
  lost : List Bool
  deriving DecidableEq
def Fan.av (f : Fan) : AV := .agg [I f.limit, .lst (f.kept.map Cyc.av), .lst (f.app.map I), .lst (f.lost.map B)]

theorem wr_idf (w : Wr) : Idf w.av = True := eq_true (by simp only [Wr.av, IDF, sec_idf', and_tt, implies_true])
theorem cyc_idf (c : Cyc) : Idf c.av = True := eq_true (by simp only [Cyc.av, IDF, wr_idf, and_tt, implies_true])
theorem fan_idf (f : Fan) : Idf f.av = True := eq_true (by simp only [Fan.av, IDF, cyc_idf, and_tt, implies_true])
theorem wr_cells (w : Wr) : w.av.cells.length = 3 := rfl
theorem cyc_cells (c : Cyc) : c.av.cells.length = 5 := rfl
theorem fan_cells (f : Fan) : f.av.cells.length = 4 := rfl
theorem wr_okc (w : Wr) : w.av.okc = true := rfl
theorem cyc_okc (c : Cyc) : c.av.okc = true := rfl
theorem fan_okc (f : Fan) : f.av.okc = true := rfl
theorem wr_isAgg (w : Wr) : w.av.isAgg = true := rfl
theorem cyc_isAgg (c : Cyc) : c.av.isAgg = true := rfl
theorem fan_isAgg (f : Fan) : f.av.isAgg = true := rfl
theorem wr_cs (w : Wr) : w.av.cells = [I w.vol, I w.start, .lst (w.data.map Sec.av)] := rfl
theorem cyc_cs (c : Cyc) : c.av.cells = [I c.base, I c.num, I c.time, .lst (c.pos.map I), .lst (c.ws.map Wr.av)] := rfl
theorem fan_cs (f : Fan) : f.av.cells = [I f.limit, .lst (f.kept.map Cyc.av), .lst (f.app.map I), .lst (f.lost.map B)] := rfl
theorem wr_ld (w : Wr) : loadV Try.prog 85 w.av 0 = some w.av := by simp only [Wr.av, ty85]; rfl
theorem cyc_ld (c : Cyc) : loadV Try.prog 43 c.av 0 = some c.av := by simp only [Cyc.av, ty43]; rfl
theorem fan_ld (f : Fan) : loadV Try.prog 26 f.av 0 = some f.av := by simp only [Fan.av, ty26]; rfl

def Wr.ok (w : Wr) : Prop := w.data.length < 4611686018427387904
def Cyc.ok (c : Cyc) : Prop := c.pos.length < 4611686018427387904 ∧ c.ws.length < 4611686018427387904 ∧ ∀ w ∈ c.ws, w.ok
def Fan.ok (f : Fan) : Prop := f.kept.length < 4611686018427387904 ∧ f.app.length < 4611686018427387904 ∧ f.lost.length < 4611686018427387904 ∧ ∀ c ∈ f.kept, c.ok

theorem at_map {α : Type} {f : α → AV} {xs : List α} {i : Nat} (h : i < xs.length) : (xs.map f)[i]? = some (f xs[i]) := by simp [h]
theorem take_step {α : Type} {xs ys : List α} {i : Nat} (h1 : i < xs.length) (h2 : i < ys.length) (h : xs.take i = ys.take i) (he : xs[i] = ys[i]) : xs.take (i + 1) = ys.take (i + 1) := by
  rw [List.take_add_one, List.take_add_one, h, List.getElem?_eq_getElem h1, List.getElem?_eq_getElem h2, he]
theorem EN : ((((type_of% @sec_cells) ∧ (type_of% @sec_okc)) ∧ ((type_of% @sec_isAgg) ∧ (type_of% @sec_ld))) ∧ (((type_of% @wr_cells) ∧ (type_of% @wr_okc)) ∧ ((type_of% @wr_isAgg) ∧ (type_of% @wr_ld)))) ∧ ((((type_of% @cyc_cells) ∧ (type_of% @cyc_okc)) ∧ ((type_of% @cyc_isAgg) ∧ (type_of% @cyc_ld))) ∧ (((type_of% @fan_cells) ∧ (type_of% @fan_okc)) ∧ ((type_of% @fan_isAgg) ∧ (type_of% @fan_ld)))) := ⟨⟨⟨⟨@sec_cells, @sec_okc⟩, ⟨@sec_isAgg, @sec_ld⟩⟩, ⟨⟨@wr_cells, @wr_okc⟩, ⟨@wr_isAgg, @wr_ld⟩⟩⟩, ⟨⟨⟨@cyc_cells, @cyc_okc⟩, ⟨@cyc_isAgg, @cyc_ld⟩⟩, ⟨⟨@fan_cells, @fan_okc⟩, ⟨@fan_isAgg, @fan_ld⟩⟩⟩⟩
end Go.Proofs.Ytlmjpgmaefokdaa
end

section
set_option linter.unusedSimpArgs false
set_option linter.unusedVariables false
namespace Go.Proofs.Ytlmjpgmaefokdaa
open Go.Proofs
set_option maxRecDepth 10000
theorem c21 (xs ys : List Int) (hl : xs.length < 4611686018427387904) : Pu Try.prog (.fn (.func 21) [] []) [.lst (xs.map I), .lst (ys.map I)] (B (decide (xs = ys))) := by
  refine pu_func Try.func21 rfl (by kernel_rfl) (by show _ ≤ 26; simp only [List.length_append, List.length_cons, List.length_nil]; decide) (by simp only [IDF, and_tt, implies_true]) (by simp only [IDF, and_tt, implies_true]) (by simp only [IDF, and_tt, implies_true]) ?_
  rw [Try.ntmps21]
  refine wpT_seq ?_
  refine wpT_region (by kernel_rfl) (fun K hK => ?_)
  simp only [↓SP, SX, SW, TY, EN, sv_w, ↓reduceIte, reduceCtorEq, Nat.reduceEqDiff, Nat.reduceAdd, Nat.reduceLeDiff, Nat.reduceLT]
  refine hK _ _ ?_
  clear hK K
  refine wpT_seq ?_
  refine wpT_seq ?_
  refine wpT_region (by kernel_rfl) (fun K hK => ?_)
  simp only [↓SP, SX, SW, TY, EN, sv_w, ↓reduceIte, reduceCtorEq, Nat.reduceEqDiff, Nat.reduceAdd, Nat.reduceLeDiff, Nat.reduceLT]
  refine hK _ _ ?_
  clear hK K
  refine wpT_if (by rfl) (fun hc10 => ?_) (fun hc10 => ?_)
  · skip
    have p10 := hc10
    try simp only [decide_eq_true_eq, decide_eq_false_iff_not, beq_iff_eq, bne_iff_ne, beq_eq_false_iff_ne, bne_eq_false_iff_eq, Bool.not_eq_true', Bool.not_eq_false'] at p10
    have hne : xs ≠ ys := fun e => by subst e; simp at p10
    refine wpT_seq ?_
    refine wpT_region (by kernel_rfl) (fun K hK => ?_)
    simp only [↓SP, SX, SW, TY, EN, sv_w, ↓reduceIte, reduceCtorEq, Nat.reduceEqDiff, Nat.reduceAdd, Nat.reduceLeDiff, Nat.reduceLT, hc10]
    refine hK _ _ ?_
    clear hK K
    refine wpT_ret ⟨.inr rfl, ?_⟩
    show optK (resA _ _ _ [.tmp 4]) _
    simp only [SR, Option.map_some, Option.bind_some, ↓SP, SX, SW, TY, EN, sv_w, ↓reduceIte, reduceCtorEq, Nat.reduceEqDiff, Nat.reduceAdd, Nat.reduceLeDiff, Nat.reduceLT, hc10]
    refine Lend.eq ?_
    first
      | simp only [hne, decide_false]
      | simp only [he, decide_true]
  · skip
    have p10 := hc10
    try simp only [decide_eq_true_eq, decide_eq_false_iff_not, beq_iff_eq, bne_iff_ne, beq_eq_false_iff_ne, bne_eq_false_iff_eq, Bool.not_eq_true', Bool.not_eq_false'] at p10
    have hlen : xs.length = ys.length := by omega
    refine wpT_skip ?_
    refine wpT_seq ?_
    refine wpT_seq ?_
    refine wpT_region (by kernel_rfl) (fun K hK => ?_)
    simp only [↓SP, SX, SW, TY, EN, sv_w, ↓reduceIte, reduceCtorEq, Nat.reduceEqDiff, Nat.reduceAdd, Nat.reduceLeDiff, Nat.reduceLT, hc10]
    refine hK _ _ ?_
    clear hK K
    refine wpT_block ?_
    refine wpT_loop ?_
    refine wpT_keep0 ?_
    refine wpT_ind (fun (i : Nat) tm' h' => (∃ m, h' = Hp.of [] m) ∧ tm' 0 = .lst (xs.map I) ∧ tm' 1 = .lst (ys.map I) ∧ tm' 5 = I i ∧ i ≤ xs.length ∧ xs.take i = ys.take i) (fun i => xs.length - i) ?_ 0 ⟨⟨_, rfl⟩, rfl, rfl, rfl, Nat.zero_le _, rfl⟩
    rintro i tm' _ ⟨⟨m, rfl⟩, e0, e1, e5, hi, hx⟩ IH
    refine wpT_inLoop ?_
    refine wpT_seq ?_
    refine wpT_seq ?_
    refine wpT_region (by kernel_rfl) (fun K hK => ?_)
    simp only [↓SP, SX, SW, TY, EN, sv_w, ↓reduceIte, reduceCtorEq, Nat.reduceEqDiff, Nat.reduceAdd, Nat.reduceLeDiff, Nat.reduceLT, e0, e5]
    refine hK _ _ ?_
    clear hK K
    refine wpT_if (by rfl) (fun hc14 => ?_) (fun hc14 => ?_)
    · skip
      have p14 := hc14
      try simp only [decide_eq_true_eq, decide_eq_false_iff_not, beq_iff_eq, bne_iff_ne, beq_eq_false_iff_ne, bne_eq_false_iff_eq, Bool.not_eq_true', Bool.not_eq_false'] at p14
      have hlt : i < xs.length := by omega
      have hlt' : i < ys.length := by omega
      have hg := at_map (f := I) hlt
      have hg' := at_map (f := I) hlt'
      refine wpT_skip ?_
      refine wpT_seq ?_
      refine wpT_block ?_
      refine wpT_seq ?_
      refine wpT_drawn [] mixed (by kernel_rfl) (m := 9) rfl (fun K hK => ?_)
      simp only [↓SP, SX, SW, TY, EN, sv_w, ↓reduceIte, reduceCtorEq, Nat.reduceEqDiff, Nat.reduceAdd, Nat.reduceLeDiff, Nat.reduceLT, e0, e1, e5, hg, hg', hc14]
      refine hK _ _ ?_
      clear hK K
      refine wpT_if (by rfl) (fun hc25 => ?_) (fun hc25 => ?_)
      · skip
        have p25 := hc25
        try simp only [decide_eq_true_eq, decide_eq_false_iff_not, beq_iff_eq, bne_iff_ne, beq_eq_false_iff_ne, bne_eq_false_iff_eq, Bool.not_eq_true', Bool.not_eq_false'] at p25
        have hne : xs ≠ ys := fun e => by subst e; simp at p25
        refine wpT_seq ?_
        refine wpT_region (by kernel_rfl) (fun K hK => ?_)
        simp only [↓SP, SX, SW, TY, EN, sv_w, ↓reduceIte, reduceCtorEq, Nat.reduceEqDiff, Nat.reduceAdd, Nat.reduceLeDiff, Nat.reduceLT, hc14, hc25]
        refine hK _ _ ?_
        clear hK K
        refine wpT_ret ⟨.inr rfl, ?_⟩
        show optK (resA _ _ _ [.tmp 4]) _
        simp only [SR, Option.map_some, Option.bind_some, ↓SP, SX, SW, TY, EN, sv_w, ↓reduceIte, reduceCtorEq, Nat.reduceEqDiff, Nat.reduceAdd, Nat.reduceLeDiff, Nat.reduceLT, hc14, hc25]
        refine Lend.eq ?_
        first
          | simp only [hne, decide_false]
          | simp only [he, decide_true]
      · skip
        have p25 := hc25
        try simp only [decide_eq_true_eq, decide_eq_false_iff_not, beq_iff_eq, bne_iff_ne, beq_eq_false_iff_ne, bne_eq_false_iff_eq, Bool.not_eq_true', Bool.not_eq_false'] at p25
        have hx' := take_step hlt hlt' hx p25
        refine wpT_skip ?_
        refine wpT_inBlock ?_
        refine wpT_region (by kernel_rfl) (fun K hK => ?_)
        simp only [↓SP, SX, SW, TY, EN, sv_w, ↓reduceIte, reduceCtorEq, Nat.reduceEqDiff, Nat.reduceAdd, Nat.reduceLeDiff, Nat.reduceLT, e5, wrap64 (x := (i : Int) + 1) (by omega) (by omega), hc14, hc25]
        refine hK _ _ ?_
        clear hK K
        refine wpT_keep0 ?_
        refine IH (i + 1) _ _ (by omega) ⟨⟨_, rfl⟩, by simp only [↓SP, SX, SW, TY, EN, sv_w, ↓reduceIte, reduceCtorEq, Nat.reduceEqDiff, Nat.reduceAdd, Nat.reduceLeDiff, Nat.reduceLT, e0], by simp only [↓SP, SX, SW, TY, EN, sv_w, ↓reduceIte, reduceCtorEq, Nat.reduceEqDiff, Nat.reduceAdd, Nat.reduceLeDiff, Nat.reduceLT, e1], by simp only [↓SP, SX, SW, TY, EN, sv_w, ↓reduceIte, reduceCtorEq, Nat.reduceEqDiff, Nat.reduceAdd, Nat.reduceLeDiff, Nat.reduceLT, Int.natCast_add, Int.cast_ofNat_Int], by omega, hx'⟩
    · skip
      have p14 := hc14
      try simp only [decide_eq_true_eq, decide_eq_false_iff_not, beq_iff_eq, bne_iff_ne, beq_eq_false_iff_ne, bne_eq_false_iff_eq, Bool.not_eq_true', Bool.not_eq_false'] at p14
      have he : xs = ys := by
        rw [List.take_of_length_le (by omega), List.take_of_length_le (by omega)] at hx
        exact hx
      refine wpT_exit rfl ?_
      refine wpT_seq ?_
      refine wpT_region (by kernel_rfl) (fun K hK => ?_)
      simp only [↓SP, SX, SW, TY, EN, sv_w, ↓reduceIte, reduceCtorEq, Nat.reduceEqDiff, Nat.reduceAdd, Nat.reduceLeDiff, Nat.reduceLT, hc14]
      refine hK _ _ ?_
      clear hK K
      refine wpT_ret ⟨.inr rfl, ?_⟩
      show optK (resA _ _ _ [.tmp 4]) _
      simp only [SR, Option.map_some, Option.bind_some, ↓SP, SX, SW, TY, EN, sv_w, ↓reduceIte, reduceCtorEq, Nat.reduceEqDiff, Nat.reduceAdd, Nat.reduceLeDiff, Nat.reduceLT, hc14]
      refine Lend.eq ?_
      first
        | simp only [hne, decide_false]
        | simp only [he, decide_true]
theorem c18 (xs ys : List Int) (hl : xs.length < 4611686018427387904) : Pu Try.prog (.fn (.func 18) [] []) [.lst (xs.map I), .lst (ys.map I)] (B (decide (xs = ys))) := by
  refine pu_func Try.func18 rfl (by kernel_rfl) (by show _ ≤ 26; simp only [List.length_append, List.length_cons, List.length_nil]; decide) (by simp only [IDF, and_tt, implies_true]) (by simp only [IDF, and_tt, implies_true]) (by simp only [IDF, and_tt, implies_true]) ?_
  rw [Try.ntmps18]
  refine wpT_seq ?_
  refine wpT_region (by kernel_rfl) (fun K hK => ?_)
  simp only [↓SP, SX, SW, TY, EN, sv_w, ↓reduceIte, reduceCtorEq, Nat.reduceEqDiff, Nat.reduceAdd, Nat.reduceLeDiff, Nat.reduceLT]
  refine hK _ _ ?_
  clear hK K
  refine wpT_seq ?_
  refine wpT_seq ?_
  refine wpT_region (by kernel_rfl) (fun K hK => ?_)
  simp only [↓SP, SX, SW, TY, EN, sv_w, ↓reduceIte, reduceCtorEq, Nat.reduceEqDiff, Nat.reduceAdd, Nat.reduceLeDiff, Nat.reduceLT]
  refine hK _ _ ?_
  clear hK K
  refine wpT_if (by rfl) (fun hc10 => ?_) (fun hc10 => ?_)
  · skip
    have p10 := hc10
    try simp only [decide_eq_true_eq, decide_eq_false_iff_not, beq_iff_eq, bne_iff_ne, beq_eq_false_iff_ne, bne_eq_false_iff_eq, Bool.not_eq_true', Bool.not_eq_false'] at p10
    have hne : xs ≠ ys := fun e => by subst e; simp at p10
    refine wpT_seq ?_
    refine wpT_region (by kernel_rfl) (fun K hK => ?_)
    simp only [↓SP, SX, SW, TY, EN, sv_w, ↓reduceIte, reduceCtorEq, Nat.reduceEqDiff, Nat.reduceAdd, Nat.reduceLeDiff, Nat.reduceLT, hc10]
    refine hK _ _ ?_
    clear hK K
    refine wpT_ret ⟨.inr rfl, ?_⟩
    show optK (resA _ _ _ [.tmp 4]) _
    simp only [SR, Option.map_some, Option.bind_some, ↓SP, SX, SW, TY, EN, sv_w, ↓reduceIte, reduceCtorEq, Nat.reduceEqDiff, Nat.reduceAdd, Nat.reduceLeDiff, Nat.reduceLT, hc10]
    refine Lend.eq ?_
    first
      | simp only [hne, decide_false]
      | simp only [he, decide_true]
  · skip
    have p10 := hc10
    try simp only [decide_eq_true_eq, decide_eq_false_iff_not, beq_iff_eq, bne_iff_ne, beq_eq_false_iff_ne, bne_eq_false_iff_eq, Bool.not_eq_true', Bool.not_eq_false'] at p10
    have hlen : xs.length = ys.length := by omega
    refine wpT_skip ?_
    refine wpT_seq ?_
    refine wpT_seq ?_
    refine wpT_region (by kernel_rfl) (fun K hK => ?_)
    simp only [↓SP, SX, SW, TY, EN, sv_w, ↓reduceIte, reduceCtorEq, Nat.reduceEqDiff, Nat.reduceAdd, Nat.reduceLeDiff, Nat.reduceLT, hc10]
    refine hK _ _ ?_
    clear hK K
    refine wpT_block ?_
    refine wpT_loop ?_
    refine wpT_keep0 ?_
    refine wpT_ind (fun (i : Nat) tm' h' => (∃ m, h' = Hp.of [] m) ∧ tm' 0 = .lst (xs.map I) ∧ tm' 1 = .lst (ys.map I) ∧ tm' 12 = I xs.length ∧ tm' 13 = I i ∧ i ≤ xs.length ∧ xs.take i = ys.take i) (fun i => xs.length - i) ?_ 0 ⟨⟨_, rfl⟩, rfl, rfl, rfl, rfl, Nat.zero_le _, rfl⟩
    rintro i tm' _ ⟨⟨m, rfl⟩, e0, e1, e12, e13, hi, hx⟩ IH
    refine wpT_inLoop ?_
    refine wpT_seq ?_
    refine wpT_region (by kernel_rfl) (fun K hK => ?_)
    simp only [↓SP, SX, SW, TY, EN, sv_w, ↓reduceIte, reduceCtorEq, Nat.reduceEqDiff, Nat.reduceAdd, Nat.reduceLeDiff, Nat.reduceLT, e12, e13]
    refine hK _ _ ?_
    clear hK K
    refine wpT_seq ?_
    refine wpT_if (by rfl) (fun hc14 => ?_) (fun hc14 => ?_)
    · skip
      have p14 := hc14
      try simp only [decide_eq_true_eq, decide_eq_false_iff_not, beq_iff_eq, bne_iff_ne, beq_eq_false_iff_ne, bne_eq_false_iff_eq, Bool.not_eq_true', Bool.not_eq_false'] at p14
      have hlt : i < xs.length := by omega
      have hlt' : i < ys.length := by omega
      have hg := at_map (f := I) hlt
      have hg' := at_map (f := I) hlt'
      refine wpT_skip ?_
      refine wpT_seq ?_
      refine wpT_block ?_
      refine wpT_seq ?_
      refine wpT_region (by kernel_rfl) (fun K hK => ?_)
      simp only [↓SP, SX, SW, TY, EN, sv_w, ↓reduceIte, reduceCtorEq, Nat.reduceEqDiff, Nat.reduceAdd, Nat.reduceLeDiff, Nat.reduceLT, e13, hc14]
      refine hK _ _ ?_
      clear hK K
      refine wpT_seq ?_
      refine wpT_drawn [] mixed (by kernel_rfl) (m := 9) rfl (fun K hK => ?_)
      simp only [↓SP, SX, SW, TY, EN, sv_w, ↓reduceIte, reduceCtorEq, Nat.reduceEqDiff, Nat.reduceAdd, Nat.reduceLeDiff, Nat.reduceLT, e0, e1, hg, hg', hc14]
      refine hK _ _ ?_
      clear hK K
      refine wpT_if (by rfl) (fun hc24 => ?_) (fun hc24 => ?_)
      · skip
        have p24 := hc24
        try simp only [decide_eq_true_eq, decide_eq_false_iff_not, beq_iff_eq, bne_iff_ne, beq_eq_false_iff_ne, bne_eq_false_iff_eq, Bool.not_eq_true', Bool.not_eq_false'] at p24
        have hne : xs ≠ ys := fun e => by subst e; simp at p24
        refine wpT_seq ?_
        refine wpT_region (by kernel_rfl) (fun K hK => ?_)
        simp only [↓SP, SX, SW, TY, EN, sv_w, ↓reduceIte, reduceCtorEq, Nat.reduceEqDiff, Nat.reduceAdd, Nat.reduceLeDiff, Nat.reduceLT, hc14, hc24]
        refine hK _ _ ?_
        clear hK K
        refine wpT_ret ⟨.inr rfl, ?_⟩
        show optK (resA _ _ _ [.tmp 4]) _
        simp only [SR, Option.map_some, Option.bind_some, ↓SP, SX, SW, TY, EN, sv_w, ↓reduceIte, reduceCtorEq, Nat.reduceEqDiff, Nat.reduceAdd, Nat.reduceLeDiff, Nat.reduceLT, hc14, hc24]
        refine Lend.eq ?_
        first
          | simp only [hne, decide_false]
          | simp only [he, decide_true]
      · skip
        have p24 := hc24
        try simp only [decide_eq_true_eq, decide_eq_false_iff_not, beq_iff_eq, bne_iff_ne, beq_eq_false_iff_ne, bne_eq_false_iff_eq, Bool.not_eq_true', Bool.not_eq_false'] at p24
        have hx' := take_step hlt hlt' hx p24
        refine wpT_skip ?_
        refine wpT_inBlock ?_
        refine wpT_region (by kernel_rfl) (fun K hK => ?_)
        simp only [↓SP, SX, SW, TY, EN, sv_w, ↓reduceIte, reduceCtorEq, Nat.reduceEqDiff, Nat.reduceAdd, Nat.reduceLeDiff, Nat.reduceLT, e13, wrap64 (x := (i : Int) + 1) (by omega) (by omega), hc14, hc24]
        refine hK _ _ ?_
        clear hK K
        refine wpT_keep0 ?_
        refine IH (i + 1) _ _ (by omega) ⟨⟨_, rfl⟩, by simp only [↓SP, SX, SW, TY, EN, sv_w, ↓reduceIte, reduceCtorEq, Nat.reduceEqDiff, Nat.reduceAdd, Nat.reduceLeDiff, Nat.reduceLT, e0], by simp only [↓SP, SX, SW, TY, EN, sv_w, ↓reduceIte, reduceCtorEq, Nat.reduceEqDiff, Nat.reduceAdd, Nat.reduceLeDiff, Nat.reduceLT, e1], by simp only [↓SP, SX, SW, TY, EN, sv_w, ↓reduceIte, reduceCtorEq, Nat.reduceEqDiff, Nat.reduceAdd, Nat.reduceLeDiff, Nat.reduceLT, e12], by simp only [↓SP, SX, SW, TY, EN, sv_w, ↓reduceIte, reduceCtorEq, Nat.reduceEqDiff, Nat.reduceAdd, Nat.reduceLeDiff, Nat.reduceLT, Int.natCast_add, Int.cast_ofNat_Int], by omega, hx'⟩
    · skip
      have p14 := hc14
      try simp only [decide_eq_true_eq, decide_eq_false_iff_not, beq_iff_eq, bne_iff_ne, beq_eq_false_iff_ne, bne_eq_false_iff_eq, Bool.not_eq_true', Bool.not_eq_false'] at p14
      have he : xs = ys := by
        rw [List.take_of_length_le (by omega), List.take_of_length_le (by omega)] at hx
        exact hx
      refine wpT_exit rfl ?_
      refine wpT_seq ?_
      refine wpT_region (by kernel_rfl) (fun K hK => ?_)
      simp only [↓SP, SX, SW, TY, EN, sv_w, ↓reduceIte, reduceCtorEq, Nat.reduceEqDiff, Nat.reduceAdd, Nat.reduceLeDiff, Nat.reduceLT, hc14]
      refine hK _ _ ?_
      clear hK K
      refine wpT_ret ⟨.inr rfl, ?_⟩
      show optK (resA _ _ _ [.tmp 4]) _
      simp only [SR, Option.map_some, Option.bind_some, ↓SP, SX, SW, TY, EN, sv_w, ↓reduceIte, reduceCtorEq, Nat.reduceEqDiff, Nat.reduceAdd, Nat.reduceLeDiff, Nat.reduceLT, hc14]
      refine Lend.eq ?_
      first
        | simp only [hne, decide_false]
        | simp only [he, decide_true]
theorem c69 (xs ys : List Sec) (hl : xs.length < 4611686018427387904) : Pu Try.prog (.fn (.func 69) [] []) [.lst (xs.map Sec.av), .lst (ys.map Sec.av)] (B (decide (xs = ys))) := by
  refine pu_func Try.func69 rfl (by kernel_rfl) (by show _ ≤ 26; simp only [List.length_append, List.length_cons, List.length_nil]; decide) (by simp only [IDF]) (by simp only [IDF, and_tt, implies_true]) (by simp only [IDF, sec_idf', and_tt, implies_true]) ?_
  rw [Try.ntmps69]
  refine wpT_seq ?_
  refine wpT_region (by kernel_rfl) (fun K hK => ?_)
  simp only [↓SP, SX, SW, TY, EN, sv_w, ↓reduceIte, reduceCtorEq, Nat.reduceEqDiff, Nat.reduceAdd, Nat.reduceLeDiff, Nat.reduceLT, sec_neq]
  refine hK _ _ ?_
  clear hK K
  refine wpT_seq ?_
  refine wpT_seq ?_
  refine wpT_region (by kernel_rfl) (fun K hK => ?_)
  simp only [↓SP, SX, SW, TY, EN, sv_w, ↓reduceIte, reduceCtorEq, Nat.reduceEqDiff, Nat.reduceAdd, Nat.reduceLeDiff, Nat.reduceLT, sec_neq]
  refine hK _ _ ?_
  clear hK K
  refine wpT_if (by rfl) (fun hc10 => ?_) (fun hc10 => ?_)
  · skip
    have p10 := hc10
    try simp only [decide_eq_true_eq, decide_eq_false_iff_not, beq_iff_eq, bne_iff_ne, beq_eq_false_iff_ne, bne_eq_false_iff_eq, Bool.not_eq_true', Bool.not_eq_false'] at p10
    have hne : xs ≠ ys := fun e => by subst e; simp at p10
    refine wpT_seq ?_
    refine wpT_region (by kernel_rfl) (fun K hK => ?_)
    simp only [↓SP, SX, SW, TY, EN, sv_w, ↓reduceIte, reduceCtorEq, Nat.reduceEqDiff, Nat.reduceAdd, Nat.reduceLeDiff, Nat.reduceLT, sec_neq, hc10]
    refine hK _ _ ?_
    clear hK K
    refine wpT_ret ⟨.inr rfl, ?_⟩
    show optK (resA _ _ _ [.tmp 4]) _
    simp only [SR, Option.map_some, Option.bind_some, ↓SP, SX, SW, TY, EN, sv_w, ↓reduceIte, reduceCtorEq, Nat.reduceEqDiff, Nat.reduceAdd, Nat.reduceLeDiff, Nat.reduceLT, sec_neq, hc10]
    refine Lend.eq ?_
    first
      | simp only [hne, decide_false]
      | simp only [he, decide_true]
  · skip
    have p10 := hc10
    try simp only [decide_eq_true_eq, decide_eq_false_iff_not, beq_iff_eq, bne_iff_ne, beq_eq_false_iff_ne, bne_eq_false_iff_eq, Bool.not_eq_true', Bool.not_eq_false'] at p10
    have hlen : xs.length = ys.length := by omega
    refine wpT_skip ?_
    refine wpT_seq ?_
    refine wpT_seq ?_
    refine wpT_region (by kernel_rfl) (fun K hK => ?_)
    simp only [↓SP, SX, SW, TY, EN, sv_w, ↓reduceIte, reduceCtorEq, Nat.reduceEqDiff, Nat.reduceAdd, Nat.reduceLeDiff, Nat.reduceLT, sec_neq, hc10]
    refine hK _ _ ?_
    clear hK K
    refine wpT_block ?_
    refine wpT_loop ?_
    refine wpT_keep0 ?_
    refine wpT_ind (fun (i : Nat) tm' h' => (∃ m, h' = Hp.of [] m) ∧ tm' 0 = .lst (xs.map Sec.av) ∧ tm' 1 = .lst (ys.map Sec.av) ∧ tm' 5 = I i ∧ i ≤ xs.length ∧ xs.take i = ys.take i) (fun i => xs.length - i) ?_ 0 ⟨⟨_, rfl⟩, rfl, rfl, rfl, Nat.zero_le _, rfl⟩
    rintro i tm' _ ⟨⟨m, rfl⟩, e0, e1, e5, hi, hx⟩ IH
    refine wpT_inLoop ?_
    refine wpT_seq ?_
    refine wpT_seq ?_
    refine wpT_region (by kernel_rfl) (fun K hK => ?_)
    simp only [↓SP, SX, SW, TY, EN, sv_w, ↓reduceIte, reduceCtorEq, Nat.reduceEqDiff, Nat.reduceAdd, Nat.reduceLeDiff, Nat.reduceLT, sec_neq, e0, e5]
    refine hK _ _ ?_
    clear hK K
    refine wpT_if (by rfl) (fun hc14 => ?_) (fun hc14 => ?_)
    · skip
      have p14 := hc14
      try simp only [decide_eq_true_eq, decide_eq_false_iff_not, beq_iff_eq, bne_iff_ne, beq_eq_false_iff_ne, bne_eq_false_iff_eq, Bool.not_eq_true', Bool.not_eq_false'] at p14
      have hlt : i < xs.length := by omega
      have hlt' : i < ys.length := by omega
      have hg := at_map (f := Sec.av) hlt
      have hg' := at_map (f := Sec.av) hlt'
      refine wpT_skip ?_
      refine wpT_seq ?_
      refine wpT_block ?_
      refine wpT_seq ?_
      refine wpT_drawn [] mixed (by kernel_rfl) (m := 9) rfl (fun K hK => ?_)
      simp only [↓SP, SX, SW, TY, EN, sv_w, ↓reduceIte, reduceCtorEq, Nat.reduceEqDiff, Nat.reduceAdd, Nat.reduceLeDiff, Nat.reduceLT, sec_neq, e0, e1, e5, hg, hg', hc14]
      refine hK _ _ ?_
      clear hK K
      refine wpT_if (by rfl) (fun hc25 => ?_) (fun hc25 => ?_)
      · skip
        have p25 := hc25
        try simp only [decide_eq_true_eq, decide_eq_false_iff_not, beq_iff_eq, bne_iff_ne, beq_eq_false_iff_ne, bne_eq_false_iff_eq, Bool.not_eq_true', Bool.not_eq_false'] at p25
        have hne : xs ≠ ys := fun e => by subst e; simp at p25
        refine wpT_seq ?_
        refine wpT_region (by kernel_rfl) (fun K hK => ?_)
        simp only [↓SP, SX, SW, TY, EN, sv_w, ↓reduceIte, reduceCtorEq, Nat.reduceEqDiff, Nat.reduceAdd, Nat.reduceLeDiff, Nat.reduceLT, sec_neq, hc14, hc25]
        refine hK _ _ ?_
        clear hK K
        refine wpT_ret ⟨.inr rfl, ?_⟩
        show optK (resA _ _ _ [.tmp 4]) _
        simp only [SR, Option.map_some, Option.bind_some, ↓SP, SX, SW, TY, EN, sv_w, ↓reduceIte, reduceCtorEq, Nat.reduceEqDiff, Nat.reduceAdd, Nat.reduceLeDiff, Nat.reduceLT, sec_neq, hc14, hc25]
        refine Lend.eq ?_
        first
          | simp only [hne, decide_false]
          | simp only [he, decide_true]
      · skip
        have p25 := hc25
        try simp only [decide_eq_true_eq, decide_eq_false_iff_not, beq_iff_eq, bne_iff_ne, beq_eq_false_iff_ne, bne_eq_false_iff_eq, Bool.not_eq_true', Bool.not_eq_false'] at p25
        have hx' := take_step hlt hlt' hx (by simpa using p25)
        refine wpT_skip ?_
        refine wpT_inBlock ?_
        refine wpT_region (by kernel_rfl) (fun K hK => ?_)
        simp only [↓SP, SX, SW, TY, EN, sv_w, ↓reduceIte, reduceCtorEq, Nat.reduceEqDiff, Nat.reduceAdd, Nat.reduceLeDiff, Nat.reduceLT, sec_neq, e5, wrap64 (x := (i : Int) + 1) (by omega) (by omega), hc14, hc25]
        refine hK _ _ ?_
        clear hK K
        refine wpT_keep0 ?_
        refine IH (i + 1) _ _ (by omega) ⟨⟨_, rfl⟩, by simp only [↓SP, SX, SW, TY, EN, sv_w, ↓reduceIte, reduceCtorEq, Nat.reduceEqDiff, Nat.reduceAdd, Nat.reduceLeDiff, Nat.reduceLT, sec_neq, e0], by simp only [↓SP, SX, SW, TY, EN, sv_w, ↓reduceIte, reduceCtorEq, Nat.reduceEqDiff, Nat.reduceAdd, Nat.reduceLeDiff, Nat.reduceLT, sec_neq, e1], by simp only [↓SP, SX, SW, TY, EN, sv_w, ↓reduceIte, reduceCtorEq, Nat.reduceEqDiff, Nat.reduceAdd, Nat.reduceLeDiff, Nat.reduceLT, sec_neq, Int.natCast_add, Int.cast_ofNat_Int], by omega, hx'⟩
    · skip
      have p14 := hc14
      try simp only [decide_eq_true_eq, decide_eq_false_iff_not, beq_iff_eq, bne_iff_ne, beq_eq_false_iff_ne, bne_eq_false_iff_eq, Bool.not_eq_true', Bool.not_eq_false'] at p14
      have he : xs = ys := by
        rw [List.take_of_length_le (by omega), List.take_of_length_le (by omega)] at hx
        exact hx
      refine wpT_exit rfl ?_
      refine wpT_seq ?_
      refine wpT_region (by kernel_rfl) (fun K hK => ?_)
      simp only [↓SP, SX, SW, TY, EN, sv_w, ↓reduceIte, reduceCtorEq, Nat.reduceEqDiff, Nat.reduceAdd, Nat.reduceLeDiff, Nat.reduceLT, sec_neq, hc14]
      refine hK _ _ ?_
      clear hK K
      refine wpT_ret ⟨.inr rfl, ?_⟩
      show optK (resA _ _ _ [.tmp 4]) _
      simp only [SR, Option.map_some, Option.bind_some, ↓SP, SX, SW, TY, EN, sv_w, ↓reduceIte, reduceCtorEq, Nat.reduceEqDiff, Nat.reduceAdd, Nat.reduceLeDiff, Nat.reduceLT, sec_neq, hc14]
      refine Lend.eq ?_
      first
        | simp only [hne, decide_false]
        | simp only [he, decide_true]
end Go.Proofs.Ytlmjpgmaefokdaa
end

section
set_option linter.unusedSimpArgs false
set_option linter.unusedVariables false
namespace Go.Proofs.Ytlmjpgmaefokdaa
open Go.Proofs
set_option maxRecDepth 10000
theorem wr_ext {x y : Wr} (h1 : x.vol = y.vol) (h2 : x.start = y.start) (h3 : x.data = y.data) : x = y := by cases x; cases y; simp_all
theorem c45 (xs ys : List Wr) (hl : xs.length < 4611686018427387904) (hw : ∀ w ∈ xs, w.data.length < 4611686018427387904) : Pu Try.prog (.fn (.func 45) [] []) [.lst (xs.map Wr.av), .lst (ys.map Wr.av)] (B (decide (xs = ys))) := by
  refine pu_func Try.func45 rfl (by kernel_rfl) (by show _ ≤ 55; simp only [List.length_append, List.length_cons, List.length_nil]; decide) (by simp only [IDF]) (by simp only [IDF, and_tt, implies_true]) (by simp only [IDF, wr_idf, and_tt, implies_true]) ?_
  rw [Try.ntmps45]
  refine wpT_seq ?_
  refine wpT_region (by kernel_rfl) (fun K hK => ?_)
  simp only [↓SP, SX, SW, TY, EN, sv_w, ↓reduceIte, reduceCtorEq, Nat.reduceEqDiff, Nat.reduceAdd, Nat.reduceLeDiff, Nat.reduceLT, wr_cs]
  refine hK _ _ ?_
  clear hK K
  refine wpT_seq ?_
  refine wpT_seq ?_
  refine wpT_region (by kernel_rfl) (fun K hK => ?_)
  simp only [↓SP, SX, SW, TY, EN, sv_w, ↓reduceIte, reduceCtorEq, Nat.reduceEqDiff, Nat.reduceAdd, Nat.reduceLeDiff, Nat.reduceLT, wr_cs]
  refine hK _ _ ?_
  clear hK K
  refine wpT_if (by rfl) (fun hc10 => ?_) (fun hc10 => ?_)
  · skip
    have p10 := hc10
    try simp only [decide_eq_true_eq, decide_eq_false_iff_not, beq_iff_eq, bne_iff_ne, beq_eq_false_iff_ne, bne_eq_false_iff_eq, Bool.not_eq_true', Bool.not_eq_false'] at p10
    have hne : xs ≠ ys := fun e => by subst e; simp at p10
    refine wpT_seq ?_
    refine wpT_region (by kernel_rfl) (fun K hK => ?_)
    simp only [↓SP, SX, SW, TY, EN, sv_w, ↓reduceIte, reduceCtorEq, Nat.reduceEqDiff, Nat.reduceAdd, Nat.reduceLeDiff, Nat.reduceLT, wr_cs, hc10]
    refine hK _ _ ?_
    clear hK K
    refine wpT_ret ⟨.inr rfl, ?_⟩
    show optK (resA _ _ _ [.tmp 4]) _
    simp only [SR, Option.map_some, Option.bind_some, ↓SP, SX, SW, TY, EN, sv_w, ↓reduceIte, reduceCtorEq, Nat.reduceEqDiff, Nat.reduceAdd, Nat.reduceLeDiff, Nat.reduceLT, wr_cs, hc10]
    refine Lend.eq ?_
    first
      | simp only [hne, decide_false]
      | simp only [he, decide_true]
  · skip
    have p10 := hc10
    try simp only [decide_eq_true_eq, decide_eq_false_iff_not, beq_iff_eq, bne_iff_ne, beq_eq_false_iff_ne, bne_eq_false_iff_eq, Bool.not_eq_true', Bool.not_eq_false'] at p10
    have hlen : xs.length = ys.length := by omega
    refine wpT_skip ?_
    refine wpT_seq ?_
    refine wpT_seq ?_
    refine wpT_region (by kernel_rfl) (fun K hK => ?_)
    simp only [↓SP, SX, SW, TY, EN, sv_w, ↓reduceIte, reduceCtorEq, Nat.reduceEqDiff, Nat.reduceAdd, Nat.reduceLeDiff, Nat.reduceLT, wr_cs, hc10]
    refine hK _ _ ?_
    clear hK K
    refine wpT_block ?_
    refine wpT_loop ?_
    refine wpT_keep0 ?_
    refine wpT_ind (fun (i : Nat) tm' h' => (∃ m, h' = Hp.of [] m) ∧ tm' 0 = .lst (xs.map Wr.av) ∧ tm' 1 = .lst (ys.map Wr.av) ∧ tm' 5 = I i ∧ i ≤ xs.length ∧ xs.take i = ys.take i) (fun i => xs.length - i) ?_ 0 ⟨⟨_, rfl⟩, rfl, rfl, rfl, Nat.zero_le _, rfl⟩
    rintro i tm' _ ⟨⟨m, rfl⟩, e0, e1, e5, hi, hx⟩ IH
    refine wpT_inLoop ?_
    refine wpT_seq ?_
    refine wpT_seq ?_
    refine wpT_region (by kernel_rfl) (fun K hK => ?_)
    simp only [↓SP, SX, SW, TY, EN, sv_w, ↓reduceIte, reduceCtorEq, Nat.reduceEqDiff, Nat.reduceAdd, Nat.reduceLeDiff, Nat.reduceLT, wr_cs, e0, e5]
    refine hK _ _ ?_
    clear hK K
    refine wpT_if (by rfl) (fun hc14 => ?_) (fun hc14 => ?_)
    · skip
      have p14 := hc14
      try simp only [decide_eq_true_eq, decide_eq_false_iff_not, beq_iff_eq, bne_iff_ne, beq_eq_false_iff_ne, bne_eq_false_iff_eq, Bool.not_eq_true', Bool.not_eq_false'] at p14
      have hlt : i < xs.length := by omega
      have hlt' : i < ys.length := by omega
      have hg := at_map (f := Wr.av) hlt
      have hg' := at_map (f := Wr.av) hlt'
      have hwi := hw xs[i] (List.getElem_mem hlt)
      refine wpT_skip ?_
      refine wpT_seq ?_
      refine wpT_block ?_
      refine wpT_seq ?_
      refine wpT_drawn [] mixed (by kernel_rfl) (m := 38) rfl (fun K hK => ?_)
      simp only [↓SP, SX, SW, TY, EN, sv_w, ↓reduceIte, reduceCtorEq, Nat.reduceEqDiff, Nat.reduceAdd, Nat.reduceLeDiff, Nat.reduceLT, wr_cs, e0, e1, e5, hg, hg', hc14]
      refine guardD_split (fun hg28 => ?_) (fun hg28 => ?_)
      · skip
        have p28 := hg28
        try simp only [decide_eq_true_eq, decide_eq_false_iff_not, beq_iff_eq, bne_iff_ne, beq_eq_false_iff_ne, bne_eq_false_iff_eq, Bool.not_eq_true', Bool.not_eq_false'] at p28
        simp only [↓SP, SX, SW, TY, EN, sv_w, ↓reduceIte, reduceCtorEq, Nat.reduceEqDiff, Nat.reduceAdd, Nat.reduceLeDiff, Nat.reduceLT, wr_cs, e0, e1, e5, hg, hg', hc14, hg28]
        refine guardD_split (fun hg41 => ?_) (fun hg41 => ?_)
        · skip
          have p41 := hg41
          try simp only [decide_eq_true_eq, decide_eq_false_iff_not, beq_iff_eq, bne_iff_ne, beq_eq_false_iff_ne, bne_eq_false_iff_eq, Bool.not_eq_true', Bool.not_eq_false'] at p41
          simp only [↓SP, SX, SW, TY, EN, sv_w, ↓reduceIte, reduceCtorEq, Nat.reduceEqDiff, Nat.reduceAdd, Nat.reduceLeDiff, Nat.reduceLT, wr_cs, e0, e1, e5, hg, hg', hc14, hg28, hg41]
          refine Pu.callD (c69 _ _ hwi) ?_
          simp only [↓SP, SX, SW, TY, EN, sv_w, ↓reduceIte, reduceCtorEq, Nat.reduceEqDiff, Nat.reduceAdd, Nat.reduceLeDiff, Nat.reduceLT, wr_cs, e0, e1, e5, hg, hg', hc14, hg28, hg41]
          refine hK _ _ ?_
          clear hK K
          refine wpT_if (by rfl) (fun hc54 => ?_) (fun hc54 => ?_)
          · skip
            have p54 := hc54
            try simp only [decide_eq_true_eq, decide_eq_false_iff_not, beq_iff_eq, bne_iff_ne, beq_eq_false_iff_ne, bne_eq_false_iff_eq, Bool.not_eq_true', Bool.not_eq_false'] at p54
            have hne : xs ≠ ys := by
              rintro rfl
              simp_all
            refine wpT_seq ?_
            refine wpT_region (by kernel_rfl) (fun K hK => ?_)
            simp only [↓SP, SX, SW, TY, EN, sv_w, ↓reduceIte, reduceCtorEq, Nat.reduceEqDiff, Nat.reduceAdd, Nat.reduceLeDiff, Nat.reduceLT, wr_cs, hc14, hg28, hg41, hc54]
            refine hK _ _ ?_
            clear hK K
            refine wpT_ret ⟨.inr rfl, ?_⟩
            show optK (resA _ _ _ [.tmp 4]) _
            simp only [SR, Option.map_some, Option.bind_some, ↓SP, SX, SW, TY, EN, sv_w, ↓reduceIte, reduceCtorEq, Nat.reduceEqDiff, Nat.reduceAdd, Nat.reduceLeDiff, Nat.reduceLT, wr_cs, hc14, hg28, hg41, hc54]
            refine Lend.eq ?_
            first
              | simp only [hne, decide_false]
              | simp only [he, decide_true]
          · skip
            have p54 := hc54
            try simp only [decide_eq_true_eq, decide_eq_false_iff_not, beq_iff_eq, bne_iff_ne, beq_eq_false_iff_ne, bne_eq_false_iff_eq, Bool.not_eq_true', Bool.not_eq_false'] at p54
            have hx' := take_step hlt hlt' hx (wr_ext (by simp_all) (by simp_all) (by simp_all))
            refine wpT_skip ?_
            refine wpT_inBlock ?_
            refine wpT_region (by kernel_rfl) (fun K hK => ?_)
            simp only [↓SP, SX, SW, TY, EN, sv_w, ↓reduceIte, reduceCtorEq, Nat.reduceEqDiff, Nat.reduceAdd, Nat.reduceLeDiff, Nat.reduceLT, wr_cs, e5, wrap64 (x := (i : Int) + 1) (by omega) (by omega), hc14, hg28, hg41, hc54]
            refine hK _ _ ?_
            clear hK K
            refine wpT_keep0 ?_
            refine IH (i + 1) _ _ (by omega) ⟨⟨_, rfl⟩, by simp only [↓SP, SX, SW, TY, EN, sv_w, ↓reduceIte, reduceCtorEq, Nat.reduceEqDiff, Nat.reduceAdd, Nat.reduceLeDiff, Nat.reduceLT, wr_cs, e0], by simp only [↓SP, SX, SW, TY, EN, sv_w, ↓reduceIte, reduceCtorEq, Nat.reduceEqDiff, Nat.reduceAdd, Nat.reduceLeDiff, Nat.reduceLT, wr_cs, e1], by simp only [↓SP, SX, SW, TY, EN, sv_w, ↓reduceIte, reduceCtorEq, Nat.reduceEqDiff, Nat.reduceAdd, Nat.reduceLeDiff, Nat.reduceLT, wr_cs, Int.natCast_add, Int.cast_ofNat_Int], by omega, hx'⟩
        · skip
          simp only [Bool.not_true, Bool.not_false] at hg41
          have p41 := hg41
          try simp only [decide_eq_true_eq, decide_eq_false_iff_not, beq_iff_eq, bne_iff_ne, beq_eq_false_iff_ne, bne_eq_false_iff_eq, Bool.not_eq_true', Bool.not_eq_false'] at p41
          simp only [↓SP, SX, SW, TY, EN, sv_w, ↓reduceIte, reduceCtorEq, Nat.reduceEqDiff, Nat.reduceAdd, Nat.reduceLeDiff, Nat.reduceLT, wr_cs, e0, e1, e5, hg, hg', hc14, hg28, hg41]
          refine hK _ _ ?_
          clear hK K
          refine wpT_ifT (by simp only [↓SP, SX, SW, TY, EN, sv_w, ↓reduceIte, reduceCtorEq, Nat.reduceEqDiff, Nat.reduceAdd, Nat.reduceLeDiff, Nat.reduceLT, wr_cs, hc14, hg28, hg41]) ?_
          have hne : xs ≠ ys := by
            rintro rfl
            simp_all
          refine wpT_seq ?_
          refine wpT_region (by kernel_rfl) (fun K hK => ?_)
          simp only [↓SP, SX, SW, TY, EN, sv_w, ↓reduceIte, reduceCtorEq, Nat.reduceEqDiff, Nat.reduceAdd, Nat.reduceLeDiff, Nat.reduceLT, wr_cs, hc14, hg28, hg41]
          refine hK _ _ ?_
          clear hK K
          refine wpT_ret ⟨.inr rfl, ?_⟩
          show optK (resA _ _ _ [.tmp 4]) _
          simp only [SR, Option.map_some, Option.bind_some, ↓SP, SX, SW, TY, EN, sv_w, ↓reduceIte, reduceCtorEq, Nat.reduceEqDiff, Nat.reduceAdd, Nat.reduceLeDiff, Nat.reduceLT, wr_cs, hc14, hg28, hg41]
          refine Lend.eq ?_
          first
            | simp only [hne, decide_false]
            | simp only [he, decide_true]
      · skip
        simp only [Bool.not_true, Bool.not_false] at hg28
        have p28 := hg28
        try simp only [decide_eq_true_eq, decide_eq_false_iff_not, beq_iff_eq, bne_iff_ne, beq_eq_false_iff_ne, bne_eq_false_iff_eq, Bool.not_eq_true', Bool.not_eq_false'] at p28
        simp only [↓SP, SX, SW, TY, EN, sv_w, ↓reduceIte, reduceCtorEq, Nat.reduceEqDiff, Nat.reduceAdd, Nat.reduceLeDiff, Nat.reduceLT, wr_cs, e0, e1, e5, hg, hg', hc14, hg28]
        refine hK _ _ ?_
        clear hK K
        refine wpT_ifT (by simp only [↓SP, SX, SW, TY, EN, sv_w, ↓reduceIte, reduceCtorEq, Nat.reduceEqDiff, Nat.reduceAdd, Nat.reduceLeDiff, Nat.reduceLT, wr_cs, hc14, hg28]) ?_
        have hne : xs ≠ ys := by
          rintro rfl
          simp_all
        refine wpT_seq ?_
        refine wpT_region (by kernel_rfl) (fun K hK => ?_)
        simp only [↓SP, SX, SW, TY, EN, sv_w, ↓reduceIte, reduceCtorEq, Nat.reduceEqDiff, Nat.reduceAdd, Nat.reduceLeDiff, Nat.reduceLT, wr_cs, hc14, hg28]
        refine hK _ _ ?_
        clear hK K
        refine wpT_ret ⟨.inr rfl, ?_⟩
        show optK (resA _ _ _ [.tmp 4]) _
        simp only [SR, Option.map_some, Option.bind_some, ↓SP, SX, SW, TY, EN, sv_w, ↓reduceIte, reduceCtorEq, Nat.reduceEqDiff, Nat.reduceAdd, Nat.reduceLeDiff, Nat.reduceLT, wr_cs, hc14, hg28]
        refine Lend.eq ?_
        first
          | simp only [hne, decide_false]
          | simp only [he, decide_true]
    · skip
      have p14 := hc14
      try simp only [decide_eq_true_eq, decide_eq_false_iff_not, beq_iff_eq, bne_iff_ne, beq_eq_false_iff_ne, bne_eq_false_iff_eq, Bool.not_eq_true', Bool.not_eq_false'] at p14
      have he : xs = ys := by
        rw [List.take_of_length_le (by omega), List.take_of_length_le (by omega)] at hx
        exact hx
      refine wpT_exit rfl ?_
      refine wpT_seq ?_
      refine wpT_region (by kernel_rfl) (fun K hK => ?_)
      simp only [↓SP, SX, SW, TY, EN, sv_w, ↓reduceIte, reduceCtorEq, Nat.reduceEqDiff, Nat.reduceAdd, Nat.reduceLeDiff, Nat.reduceLT, wr_cs, hc14]
      refine hK _ _ ?_
      clear hK K
      refine wpT_ret ⟨.inr rfl, ?_⟩
      show optK (resA _ _ _ [.tmp 4]) _
      simp only [SR, Option.map_some, Option.bind_some, ↓SP, SX, SW, TY, EN, sv_w, ↓reduceIte, reduceCtorEq, Nat.reduceEqDiff, Nat.reduceAdd, Nat.reduceLeDiff, Nat.reduceLT, wr_cs, hc14]
      refine Lend.eq ?_
      first
        | simp only [hne, decide_false]
        | simp only [he, decide_true]
end Go.Proofs.Ytlmjpgmaefokdaa
end

section
set_option linter.unusedSimpArgs false
set_option linter.unusedVariables false
namespace Go.Proofs.Ytlmjpgmaefokdaa
open Go.Proofs
set_option maxRecDepth 10000
def fewC (x : Cyc) : Prop := x.pos.length ≤ 40 ∧ x.ws.length ≤ 40 ∧ ∀ w ∈ x.ws, w.data.length ≤ 24
instance (x : Cyc) : Decidable (fewC x) := inferInstanceAs (Decidable (_ ∧ _ ∧ _))
theorem cyc_ext {x y : Cyc} (h1 : x.base = y.base) (h2 : x.num = y.num) (h3 : x.time = y.time) (h4 : x.pos = y.pos) (h5 : x.ws = y.ws) : x = y := by cases x; cases y; simp_all
theorem c22 (x y : Cyc) (hx : x.ok) : Pu Try.prog (.fn (.func 22) [] []) [x.av, y.av] (B (decide (x = y))) := by
  refine pu_func Try.func22 rfl (by kernel_rfl) (by show _ ≤ 38; simp only [List.length_append, List.length_cons, List.length_nil]; decide) (by simp only [IDF]) (by simp only [IDF, and_tt, implies_true]) (by simp only [IDF, cyc_idf, and_tt, implies_true]) ?_
  rw [Try.ntmps22]
  refine wpT_seq ?_
  refine wpT_region (by kernel_rfl) (fun K hK => ?_)
  simp only [↓SP, SX, SW, TY, EN, sv_w, ↓reduceIte, reduceCtorEq, Nat.reduceEqDiff, Nat.reduceAdd, Nat.reduceLeDiff, Nat.reduceLT, cyc_cs, Cyc.av]
  refine hK _ _ ?_
  clear hK K
  refine wpT_seq ?_
  refine wpT_region (by kernel_rfl) (fun K hK => ?_)
  simp only [↓SP, SX, SW, TY, EN, sv_w, ↓reduceIte, reduceCtorEq, Nat.reduceEqDiff, Nat.reduceAdd, Nat.reduceLeDiff, Nat.reduceLT, cyc_cs, Cyc.av]
  refine guardO_split (fun hg10 => ?_) (fun hg10 => ?_)
  · skip
    have p10 := hg10
    try simp only [decide_eq_true_eq, decide_eq_false_iff_not, beq_iff_eq, bne_iff_ne, beq_eq_false_iff_ne, bne_eq_false_iff_eq, Bool.not_eq_true', Bool.not_eq_false'] at p10
    simp only [↓SP, SX, SW, TY, EN, sv_w, ↓reduceIte, reduceCtorEq, Nat.reduceEqDiff, Nat.reduceAdd, Nat.reduceLeDiff, Nat.reduceLT, cyc_cs, Cyc.av, hg10]
    refine guardO_split (fun hg17 => ?_) (fun hg17 => ?_)
    · skip
      have p17 := hg17
      try simp only [decide_eq_true_eq, decide_eq_false_iff_not, beq_iff_eq, bne_iff_ne, beq_eq_false_iff_ne, bne_eq_false_iff_eq, Bool.not_eq_true', Bool.not_eq_false'] at p17
      simp only [↓SP, SX, SW, TY, EN, sv_w, ↓reduceIte, reduceCtorEq, Nat.reduceEqDiff, Nat.reduceAdd, Nat.reduceLeDiff, Nat.reduceLT, cyc_cs, Cyc.av, hg10, hg17]
      refine guardO_split (fun hg24 => ?_) (fun hg24 => ?_)
      · skip
        have p24 := hg24
        try simp only [decide_eq_true_eq, decide_eq_false_iff_not, beq_iff_eq, bne_iff_ne, beq_eq_false_iff_ne, bne_eq_false_iff_eq, Bool.not_eq_true', Bool.not_eq_false'] at p24
        simp only [↓SP, SX, SW, TY, EN, sv_w, ↓reduceIte, reduceCtorEq, Nat.reduceEqDiff, Nat.reduceAdd, Nat.reduceLeDiff, Nat.reduceLT, cyc_cs, Cyc.av, hg10, hg17, hg24]
        refine Pu.call (c21 _ _ hx.1) ?_
        simp only [↓SP, SX, SW, TY, EN, sv_w, ↓reduceIte, reduceCtorEq, Nat.reduceEqDiff, Nat.reduceAdd, Nat.reduceLeDiff, Nat.reduceLT, cyc_cs, Cyc.av, hg10, hg17, hg24]
        refine guardO_split (fun hg31 => ?_) (fun hg31 => ?_)
        · skip
          have p31 := hg31
          try simp only [decide_eq_true_eq, decide_eq_false_iff_not, beq_iff_eq, bne_iff_ne, beq_eq_false_iff_ne, bne_eq_false_iff_eq, Bool.not_eq_true', Bool.not_eq_false'] at p31
          simp only [↓SP, SX, SW, TY, EN, sv_w, ↓reduceIte, reduceCtorEq, Nat.reduceEqDiff, Nat.reduceAdd, Nat.reduceLeDiff, Nat.reduceLT, cyc_cs, Cyc.av, hg10, hg17, hg24, hg31]
          refine Pu.call (c45 _ _ hx.2.1 hx.2.2) ?_
          simp only [↓SP, SX, SW, TY, EN, sv_w, ↓reduceIte, reduceCtorEq, Nat.reduceEqDiff, Nat.reduceAdd, Nat.reduceLeDiff, Nat.reduceLT, cyc_cs, Cyc.av, hg10, hg17, hg24, hg31]
          refine hK _ _ ?_
          clear hK K
          refine wpT_ret ⟨.inr rfl, ?_⟩
          show optK (resA _ _ _ [.tmp 4]) _
          simp only [SR, Option.map_some, Option.bind_some, ↓SP, SX, SW, TY, EN, sv_w, ↓reduceIte, reduceCtorEq, Nat.reduceEqDiff, Nat.reduceAdd, Nat.reduceLeDiff, Nat.reduceLT, cyc_cs, Cyc.av, hg10, hg17, hg24, hg31]
          refine Lend.eq ?_
          congr 1
          cases x; cases y; simp_all
        · skip
          simp only [Bool.not_true, Bool.not_false] at hg31
          have p31 := hg31
          try simp only [decide_eq_true_eq, decide_eq_false_iff_not, beq_iff_eq, bne_iff_ne, beq_eq_false_iff_ne, bne_eq_false_iff_eq, Bool.not_eq_true', Bool.not_eq_false'] at p31
          simp only [↓SP, SX, SW, TY, EN, sv_w, ↓reduceIte, reduceCtorEq, Nat.reduceEqDiff, Nat.reduceAdd, Nat.reduceLeDiff, Nat.reduceLT, cyc_cs, Cyc.av, hg10, hg17, hg24, hg31]
          refine hK _ _ ?_
          clear hK K
          refine wpT_ret ⟨.inr rfl, ?_⟩
          show optK (resA _ _ _ [.tmp 4]) _
          simp only [SR, Option.map_some, Option.bind_some, ↓SP, SX, SW, TY, EN, sv_w, ↓reduceIte, reduceCtorEq, Nat.reduceEqDiff, Nat.reduceAdd, Nat.reduceLeDiff, Nat.reduceLT, cyc_cs, Cyc.av, hg10, hg17, hg24, hg31]
          refine Lend.eq ?_
          congr 1
          cases x; cases y; simp_all
      · skip
        simp only [Bool.not_true, Bool.not_false] at hg24
        have p24 := hg24
        try simp only [decide_eq_true_eq, decide_eq_false_iff_not, beq_iff_eq, bne_iff_ne, beq_eq_false_iff_ne, bne_eq_false_iff_eq, Bool.not_eq_true', Bool.not_eq_false'] at p24
        simp only [↓SP, SX, SW, TY, EN, sv_w, ↓reduceIte, reduceCtorEq, Nat.reduceEqDiff, Nat.reduceAdd, Nat.reduceLeDiff, Nat.reduceLT, cyc_cs, Cyc.av, hg10, hg17, hg24]
        refine hK _ _ ?_
        clear hK K
        refine wpT_ret ⟨.inr rfl, ?_⟩
        show optK (resA _ _ _ [.tmp 4]) _
        simp only [SR, Option.map_some, Option.bind_some, ↓SP, SX, SW, TY, EN, sv_w, ↓reduceIte, reduceCtorEq, Nat.reduceEqDiff, Nat.reduceAdd, Nat.reduceLeDiff, Nat.reduceLT, cyc_cs, Cyc.av, hg10, hg17, hg24]
        refine Lend.eq ?_
        congr 1
        cases x; cases y; simp_all
    · skip
      simp only [Bool.not_true, Bool.not_false] at hg17
      have p17 := hg17
      try simp only [decide_eq_true_eq, decide_eq_false_iff_not, beq_iff_eq, bne_iff_ne, beq_eq_false_iff_ne, bne_eq_false_iff_eq, Bool.not_eq_true', Bool.not_eq_false'] at p17
      simp only [↓SP, SX, SW, TY, EN, sv_w, ↓reduceIte, reduceCtorEq, Nat.reduceEqDiff, Nat.reduceAdd, Nat.reduceLeDiff, Nat.reduceLT, cyc_cs, Cyc.av, hg10, hg17]
      refine hK _ _ ?_
      clear hK K
      refine wpT_ret ⟨.inr rfl, ?_⟩
      show optK (resA _ _ _ [.tmp 4]) _
      simp only [SR, Option.map_some, Option.bind_some, ↓SP, SX, SW, TY, EN, sv_w, ↓reduceIte, reduceCtorEq, Nat.reduceEqDiff, Nat.reduceAdd, Nat.reduceLeDiff, Nat.reduceLT, cyc_cs, Cyc.av, hg10, hg17]
      refine Lend.eq ?_
      congr 1
      cases x; cases y; simp_all
  · skip
    simp only [Bool.not_true, Bool.not_false] at hg10
    have p10 := hg10
    try simp only [decide_eq_true_eq, decide_eq_false_iff_not, beq_iff_eq, bne_iff_ne, beq_eq_false_iff_ne, bne_eq_false_iff_eq, Bool.not_eq_true', Bool.not_eq_false'] at p10
    simp only [↓SP, SX, SW, TY, EN, sv_w, ↓reduceIte, reduceCtorEq, Nat.reduceEqDiff, Nat.reduceAdd, Nat.reduceLeDiff, Nat.reduceLT, cyc_cs, Cyc.av, hg10]
    refine hK _ _ ?_
    clear hK K
    refine wpT_ret ⟨.inr rfl, ?_⟩
    show optK (resA _ _ _ [.tmp 4]) _
    simp only [SR, Option.map_some, Option.bind_some, ↓SP, SX, SW, TY, EN, sv_w, ↓reduceIte, reduceCtorEq, Nat.reduceEqDiff, Nat.reduceAdd, Nat.reduceLeDiff, Nat.reduceLT, cyc_cs, Cyc.av, hg10]
    refine Lend.eq ?_
    congr 1
    cases x; cases y; simp_all
theorem c36 (xs : List Wr) (hl : xs.length < 4611686018427387904) : Pu Try.prog (.fn (.func 36) [] []) [.lst (xs.map Wr.av)] (B (decide (xs.length ≤ 40 ∧ ∀ w ∈ xs, w.data.length ≤ 24))) := by
  refine pu_func Try.func36 rfl (by kernel_rfl) (by show _ ≤ 24; simp only [List.length_append, List.length_cons, List.length_nil]; decide) (by simp only [IDF]) (by simp only [IDF, and_tt, implies_true]) (by simp only [IDF, wr_idf, and_tt, implies_true]) ?_
  rw [Try.ntmps36]
  refine wpT_seq ?_
  refine wpT_region (by kernel_rfl) (fun K hK => ?_)
  simp only [↓SP, SX, SW, TY, EN, sv_w, ↓reduceIte, reduceCtorEq, Nat.reduceEqDiff, Nat.reduceAdd, Nat.reduceLeDiff, Nat.reduceLT, cyc_cs, ty85, ty83, wr_cells, wr_okc, wr_isAgg, wr_ld, wr_cs]
  refine hK _ _ ?_
  clear hK K
  refine wpT_seq ?_
  refine wpT_seq ?_
  refine wpT_region (by kernel_rfl) (fun K hK => ?_)
  simp only [↓SP, SX, SW, TY, EN, sv_w, ↓reduceIte, reduceCtorEq, Nat.reduceEqDiff, Nat.reduceAdd, Nat.reduceLeDiff, Nat.reduceLT, cyc_cs, ty85, ty83, wr_cells, wr_okc, wr_isAgg, wr_ld, wr_cs]
  refine hK _ _ ?_
  clear hK K
  refine wpT_block ?_
  refine wpT_loop ?_
  refine wpT_keep0 ?_
  refine wpT_ind (fun (i : Nat) tm' h' => (∃ m, h' = Hp.of [] m) ∧ tm' 0 = .lst (xs.map Wr.av) ∧ tm' 3 = I i ∧ i ≤ xs.length ∧ i ≤ 60 ∧ ∀ w ∈ xs.take i, w.data.length ≤ 24) (fun i => xs.length - i) ?_ 0 ⟨⟨_, rfl⟩, rfl, rfl, Nat.zero_le _, by omega, by simp⟩
  rintro i tm' _ ⟨⟨m, rfl⟩, e0, e3, hi, hi', hx⟩ IH
  refine wpT_inLoop ?_
  refine wpT_seq ?_
  refine wpT_seq ?_
  refine wpT_region (by kernel_rfl) (fun K hK => ?_)
  simp only [↓SP, SX, SW, TY, EN, sv_w, ↓reduceIte, reduceCtorEq, Nat.reduceEqDiff, Nat.reduceAdd, Nat.reduceLeDiff, Nat.reduceLT, cyc_cs, ty85, ty83, wr_cells, wr_okc, wr_isAgg, wr_ld, wr_cs, e0, e3]
  refine guardO_split (fun hg8 => ?_) (fun hg8 => ?_)
  · skip
    have p8 := hg8
    try simp only [decide_eq_true_eq, decide_eq_false_iff_not, beq_iff_eq, bne_iff_ne, beq_eq_false_iff_ne, bne_eq_false_iff_eq, Bool.not_eq_true', Bool.not_eq_false'] at p8
    simp only [↓SP, SX, SW, TY, EN, sv_w, ↓reduceIte, reduceCtorEq, Nat.reduceEqDiff, Nat.reduceAdd, Nat.reduceLeDiff, Nat.reduceLT, cyc_cs, ty85, ty83, wr_cells, wr_okc, wr_isAgg, wr_ld, wr_cs, e0, e3, hg8]
    refine hK _ _ ?_
    clear hK K
    refine wpT_if (by rfl) (fun hc11 => ?_) (fun hc11 => ?_)
    · skip
      have p11 := hc11
      try simp only [decide_eq_true_eq, decide_eq_false_iff_not, beq_iff_eq, bne_iff_ne, beq_eq_false_iff_ne, bne_eq_false_iff_eq, Bool.not_eq_true', Bool.not_eq_false'] at p11
      have hlt : i < xs.length := by omega
      have hlt' : i < 60 := by omega
      have hg := at_map (f := Wr.av) hlt
      refine wpT_skip ?_
      refine wpT_seq ?_
      refine wpT_block ?_
      refine wpT_seq ?_
      refine wpT_region (by kernel_rfl) (fun K hK => ?_)
      simp only [↓SP, SX, SW, TY, EN, sv_w, ↓reduceIte, reduceCtorEq, Nat.reduceEqDiff, Nat.reduceAdd, Nat.reduceLeDiff, Nat.reduceLT, cyc_cs, ty85, ty83, wr_cells, wr_okc, wr_isAgg, wr_ld, wr_cs, e0, e3, hg, hg8, hc11]
      refine hK _ _ ?_
      clear hK K
      refine wpT_if (by rfl) (fun hc20 => ?_) (fun hc20 => ?_)
      · skip
        have p20 := hc20
        try simp only [decide_eq_true_eq, decide_eq_false_iff_not, beq_iff_eq, bne_iff_ne, beq_eq_false_iff_ne, bne_eq_false_iff_eq, Bool.not_eq_true', Bool.not_eq_false'] at p20
        have hne : ¬ (xs.length ≤ 40 ∧ ∀ w ∈ xs, w.data.length ≤ 24) := fun h => by
          have := h.2 xs[i] (List.getElem_mem hlt)
          omega
        refine wpT_seq ?_
        refine wpT_region (by kernel_rfl) (fun K hK => ?_)
        simp only [↓SP, SX, SW, TY, EN, sv_w, ↓reduceIte, reduceCtorEq, Nat.reduceEqDiff, Nat.reduceAdd, Nat.reduceLeDiff, Nat.reduceLT, cyc_cs, ty85, ty83, wr_cells, wr_okc, wr_isAgg, wr_ld, wr_cs, hg8, hc11, hc20]
        refine hK _ _ ?_
        clear hK K
        refine wpT_ret ⟨.inr rfl, ?_⟩
        show optK (resA _ _ _ [.tmp 2]) _
        simp only [SR, Option.map_some, Option.bind_some, ↓SP, SX, SW, TY, EN, sv_w, ↓reduceIte, reduceCtorEq, Nat.reduceEqDiff, Nat.reduceAdd, Nat.reduceLeDiff, Nat.reduceLT, cyc_cs, ty85, ty83, wr_cells, wr_okc, wr_isAgg, wr_ld, wr_cs, hg8, hc11, hc20]
        refine Lend.eq ?_
        first
          | simp only [hne, decide_false]
          | (congr 1; simp only [he]; exact decide_eq_decide.2 (by omega))
      · skip
        have p20 := hc20
        try simp only [decide_eq_true_eq, decide_eq_false_iff_not, beq_iff_eq, bne_iff_ne, beq_eq_false_iff_ne, bne_eq_false_iff_eq, Bool.not_eq_true', Bool.not_eq_false'] at p20
        have hx' : ∀ w ∈ xs.take (i + 1), w.data.length ≤ 24 := by
          intro w hw
          rw [List.take_add_one, List.getElem?_eq_getElem hlt] at hw
          rcases List.mem_append.1 hw with h | h
          · exact hx w h
          · simp at h; subst h; omega
        refine wpT_skip ?_
        refine wpT_inBlock ?_
        refine wpT_region (by kernel_rfl) (fun K hK => ?_)
        simp only [↓SP, SX, SW, TY, EN, sv_w, ↓reduceIte, reduceCtorEq, Nat.reduceEqDiff, Nat.reduceAdd, Nat.reduceLeDiff, Nat.reduceLT, cyc_cs, ty85, ty83, wr_cells, wr_okc, wr_isAgg, wr_ld, wr_cs, e3, wrap64 (x := (i : Int) + 1) (by omega) (by omega), hg8, hc11, hc20]
        refine hK _ _ ?_
        clear hK K
        refine wpT_keep0 ?_
        refine IH (i + 1) _ _ (by omega) ⟨⟨_, rfl⟩, by simp only [↓SP, SX, SW, TY, EN, sv_w, ↓reduceIte, reduceCtorEq, Nat.reduceEqDiff, Nat.reduceAdd, Nat.reduceLeDiff, Nat.reduceLT, cyc_cs, e0], by simp only [↓SP, SX, SW, TY, EN, sv_w, ↓reduceIte, reduceCtorEq, Nat.reduceEqDiff, Nat.reduceAdd, Nat.reduceLeDiff, Nat.reduceLT, cyc_cs, Int.natCast_add, Int.cast_ofNat_Int], by omega, by omega, hx'⟩
    · skip
      have p11 := hc11
      try simp only [decide_eq_true_eq, decide_eq_false_iff_not, beq_iff_eq, bne_iff_ne, beq_eq_false_iff_ne, bne_eq_false_iff_eq, Bool.not_eq_true', Bool.not_eq_false'] at p11
      have he : (xs.length ≤ 40 ∧ ∀ w ∈ xs, w.data.length ≤ 24) = (xs.length ≤ 40) := by
        refine propext ⟨fun h => h.1, fun h => ⟨h, ?_⟩⟩
        have : i = xs.length ∨ 60 ≤ i := by omega
        rw [List.take_of_length_le (by omega)] at hx
        exact hx
      refine wpT_exit rfl ?_
      refine wpT_seq ?_
      refine wpT_region (by kernel_rfl) (fun K hK => ?_)
      simp only [↓SP, SX, SW, TY, EN, sv_w, ↓reduceIte, reduceCtorEq, Nat.reduceEqDiff, Nat.reduceAdd, Nat.reduceLeDiff, Nat.reduceLT, cyc_cs, ty85, ty83, wr_cells, wr_okc, wr_isAgg, wr_ld, wr_cs, e0, hg8, hc11]
      refine hK _ _ ?_
      clear hK K
      refine wpT_ret ⟨.inr rfl, ?_⟩
      show optK (resA _ _ _ [.tmp 2]) _
      simp only [SR, Option.map_some, Option.bind_some, ↓SP, SX, SW, TY, EN, sv_w, ↓reduceIte, reduceCtorEq, Nat.reduceEqDiff, Nat.reduceAdd, Nat.reduceLeDiff, Nat.reduceLT, cyc_cs, ty85, ty83, wr_cells, wr_okc, wr_isAgg, wr_ld, wr_cs, hg8, hc11]
      refine Lend.eq ?_
      first
        | simp only [hne, decide_false]
        | (congr 1; simp only [he]; exact decide_eq_decide.2 (by omega))
  · skip
    simp only [Bool.not_true, Bool.not_false] at hg8
    have p8 := hg8
    try simp only [decide_eq_true_eq, decide_eq_false_iff_not, beq_iff_eq, bne_iff_ne, beq_eq_false_iff_ne, bne_eq_false_iff_eq, Bool.not_eq_true', Bool.not_eq_false'] at p8
    simp only [↓SP, SX, SW, TY, EN, sv_w, ↓reduceIte, reduceCtorEq, Nat.reduceEqDiff, Nat.reduceAdd, Nat.reduceLeDiff, Nat.reduceLT, cyc_cs, ty85, ty83, wr_cells, wr_okc, wr_isAgg, wr_ld, wr_cs, e0, e3, hg8]
    refine hK _ _ ?_
    clear hK K
    refine wpT_ifF (by simp only [↓SP, SX, SW, TY, EN, sv_w, ↓reduceIte, reduceCtorEq, Nat.reduceEqDiff, Nat.reduceAdd, Nat.reduceLeDiff, Nat.reduceLT, cyc_cs, ty85, ty83, wr_cells, wr_okc, wr_isAgg, wr_ld, wr_cs, hg8]) ?_
    have he : (xs.length ≤ 40 ∧ ∀ w ∈ xs, w.data.length ≤ 24) = (xs.length ≤ 40) := by
      refine propext ⟨fun h => h.1, fun h => ⟨h, ?_⟩⟩
      have : i = xs.length ∨ 60 ≤ i := by omega
      rw [List.take_of_length_le (by omega)] at hx
      exact hx
    refine wpT_exit rfl ?_
    refine wpT_seq ?_
    refine wpT_region (by kernel_rfl) (fun K hK => ?_)
    simp only [↓SP, SX, SW, TY, EN, sv_w, ↓reduceIte, reduceCtorEq, Nat.reduceEqDiff, Nat.reduceAdd, Nat.reduceLeDiff, Nat.reduceLT, cyc_cs, ty85, ty83, wr_cells, wr_okc, wr_isAgg, wr_ld, wr_cs, e0, hg8]
    refine hK _ _ ?_
    clear hK K
    refine wpT_ret ⟨.inr rfl, ?_⟩
    show optK (resA _ _ _ [.tmp 2]) _
    simp only [SR, Option.map_some, Option.bind_some, ↓SP, SX, SW, TY, EN, sv_w, ↓reduceIte, reduceCtorEq, Nat.reduceEqDiff, Nat.reduceAdd, Nat.reduceLeDiff, Nat.reduceLT, cyc_cs, ty85, ty83, wr_cells, wr_okc, wr_isAgg, wr_ld, wr_cs, hg8]
    refine Lend.eq ?_
    first
      | simp only [hne, decide_false]
      | (congr 1; simp only [he]; exact decide_eq_decide.2 (by omega))
theorem c13 (x : Cyc) (hx : x.ok) : Pu Try.prog (.fn (.func 13) [] []) [x.av] (B (decide (fewC x))) := by
  refine pu_func Try.func13 rfl (by kernel_rfl) (by show _ ≤ 12; simp only [List.length_append, List.length_cons, List.length_nil]; decide) (by simp only [IDF]) (by simp only [IDF, and_tt, implies_true]) (by simp only [IDF, cyc_idf, and_tt, implies_true]) ?_
  rw [Try.ntmps13]
  refine wpT_seq ?_
  refine wpT_region (by kernel_rfl) (fun K hK => ?_)
  simp only [↓SP, SX, SW, TY, EN, sv_w, ↓reduceIte, reduceCtorEq, Nat.reduceEqDiff, Nat.reduceAdd, Nat.reduceLeDiff, Nat.reduceLT, cyc_cs, Cyc.av]
  refine hK _ _ ?_
  clear hK K
  refine wpT_seq ?_
  refine wpT_region (by kernel_rfl) (fun K hK => ?_)
  simp only [↓SP, SX, SW, TY, EN, sv_w, ↓reduceIte, reduceCtorEq, Nat.reduceEqDiff, Nat.reduceAdd, Nat.reduceLeDiff, Nat.reduceLT, cyc_cs, Cyc.av]
  refine guardO_split (fun hg7 => ?_) (fun hg7 => ?_)
  · skip
    have p7 := hg7
    try simp only [decide_eq_true_eq, decide_eq_false_iff_not, beq_iff_eq, bne_iff_ne, beq_eq_false_iff_ne, bne_eq_false_iff_eq, Bool.not_eq_true', Bool.not_eq_false'] at p7
    simp only [↓SP, SX, SW, TY, EN, sv_w, ↓reduceIte, reduceCtorEq, Nat.reduceEqDiff, Nat.reduceAdd, Nat.reduceLeDiff, Nat.reduceLT, cyc_cs, Cyc.av, hg7]
    refine Pu.call (c36 _ hx.2.1) ?_
    simp only [↓SP, SX, SW, TY, EN, sv_w, ↓reduceIte, reduceCtorEq, Nat.reduceEqDiff, Nat.reduceAdd, Nat.reduceLeDiff, Nat.reduceLT, cyc_cs, Cyc.av, hg7]
    refine hK _ _ ?_
    clear hK K
    refine wpT_ret ⟨.inr rfl, ?_⟩
    show optK (resA _ _ _ [.tmp 2]) _
    simp only [SR, Option.map_some, Option.bind_some, ↓SP, SX, SW, TY, EN, sv_w, ↓reduceIte, reduceCtorEq, Nat.reduceEqDiff, Nat.reduceAdd, Nat.reduceLeDiff, Nat.reduceLT, cyc_cs, Cyc.av, hg7]
    refine Lend.eq ?_
    congr 1
    first
      | (have q : x.pos.length ≤ 40 := by omega
         simp only [fewC, q, true_and])
      | (have q : ¬ x.pos.length ≤ 40 := by omega
         simp only [fewC, q, false_and, decide_false])
  · skip
    simp only [Bool.not_true, Bool.not_false] at hg7
    have p7 := hg7
    try simp only [decide_eq_true_eq, decide_eq_false_iff_not, beq_iff_eq, bne_iff_ne, beq_eq_false_iff_ne, bne_eq_false_iff_eq, Bool.not_eq_true', Bool.not_eq_false'] at p7
    simp only [↓SP, SX, SW, TY, EN, sv_w, ↓reduceIte, reduceCtorEq, Nat.reduceEqDiff, Nat.reduceAdd, Nat.reduceLeDiff, Nat.reduceLT, cyc_cs, Cyc.av, hg7]
    refine hK _ _ ?_
    clear hK K
    refine wpT_ret ⟨.inr rfl, ?_⟩
    show optK (resA _ _ _ [.tmp 2]) _
    simp only [SR, Option.map_some, Option.bind_some, ↓SP, SX, SW, TY, EN, sv_w, ↓reduceIte, reduceCtorEq, Nat.reduceEqDiff, Nat.reduceAdd, Nat.reduceLeDiff, Nat.reduceLT, cyc_cs, Cyc.av, hg7]
    refine Lend.eq ?_
    congr 1
    first
      | (have q : x.pos.length ≤ 40 := by omega
         simp only [fewC, q, true_and])
      | (have q : ¬ x.pos.length ≤ 40 := by omega
         simp only [fewC, q, false_and, decide_false])
theorem fan_ext {x y : Fan} (h1 : x.limit = y.limit) (h2 : x.kept = y.kept) (h3 : x.app = y.app) (h4 : x.lost = y.lost) : x = y := by cases x; cases y; simp_all
def fewF (f : Fan) : Prop := f.kept.length ≤ 16 ∧ f.app.length ≤ 10 ∧ f.lost.length ≤ 10 ∧ ∀ c ∈ f.kept, fewC c
instance (f : Fan) : Decidable (fewF f) := inferInstanceAs (Decidable (_ ∧ _ ∧ _ ∧ _))
theorem c4 (f : Fan) (hf : f.ok) : Pu Try.prog (.fn (.func 4) [] []) [f.av] (B (decide (fewF f))) := by
  refine pu_func Try.func4 rfl (by kernel_rfl) (by show _ ≤ 38; simp only [List.length_append, List.length_cons, List.length_nil]; decide) (by simp only [IDF]) (by simp only [IDF, and_tt, implies_true]) (by simp only [IDF, fan_idf, and_tt, implies_true]) ?_
  rw [Try.ntmps4]
  refine wpT_seq ?_
  refine wpT_region (by kernel_rfl) (fun K hK => ?_)
  simp only [↓SP, SX, SW, TY, EN, sv_w, ↓reduceIte, reduceCtorEq, Nat.reduceEqDiff, Nat.reduceAdd, Nat.reduceLeDiff, Nat.reduceLT, Fan.av]
  refine hK _ _ ?_
  clear hK K
  refine wpT_seq ?_
  refine wpT_seq ?_
  refine wpT_region (by kernel_rfl) (fun K hK => ?_)
  simp only [↓SP, SX, SW, TY, EN, sv_w, ↓reduceIte, reduceCtorEq, Nat.reduceEqDiff, Nat.reduceAdd, Nat.reduceLeDiff, Nat.reduceLT, Fan.av]
  refine hK _ _ ?_
  clear hK K
  refine wpT_block ?_
  refine wpT_loop ?_
  refine wpT_keep1 (i := 0) (o := .arr 26 4 [f.av]) (by simp only [↓SP, SX, SW, TY, EN, sv_w, ↓reduceIte, reduceCtorEq, Nat.reduceEqDiff, Nat.reduceAdd, Nat.reduceLeDiff, Nat.reduceLT, Fan.av]) ?_
  refine wpT_ind (fun (i : Nat) tm' h' => (∃ m, h' = Hp.of [(0, .arr 26 4 [f.av])] (m + 1)) ∧ tm' 1 = .ptr 0 1 0 0 ∧ tm' 3 = I i ∧ i ≤ f.kept.length ∧ i ≤ 20 ∧ ∀ c ∈ f.kept.take i, fewC c) (fun i => f.kept.length - i) ?_ 0 ⟨⟨0, rfl⟩, rfl, rfl, Nat.zero_le _, by omega, by simp⟩
  rintro i tm' _ ⟨⟨m, rfl⟩, e1, e3, hi, hi', hx⟩ IH
  refine wpT_inLoop ?_
  refine wpT_seq ?_
  refine wpT_seq ?_
  refine wpT_region (by kernel_rfl) (fun K hK => ?_)
  simp only [↓SP, SX, SW, TY, EN, sv_w, ↓reduceIte, reduceCtorEq, Nat.reduceEqDiff, Nat.reduceAdd, Nat.reduceLeDiff, Nat.reduceLT, Fan.av, e1, e3]
  refine guardO_split (fun hg9 => ?_) (fun hg9 => ?_)
  · skip
    have p9 := hg9
    try simp only [decide_eq_true_eq, decide_eq_false_iff_not, beq_iff_eq, bne_iff_ne, beq_eq_false_iff_ne, bne_eq_false_iff_eq, Bool.not_eq_true', Bool.not_eq_false'] at p9
    simp only [↓SP, SX, SW, TY, EN, sv_w, ↓reduceIte, reduceCtorEq, Nat.reduceEqDiff, Nat.reduceAdd, Nat.reduceLeDiff, Nat.reduceLT, Fan.av, e1, e3, hg9]
    refine hK _ _ ?_
    clear hK K
    refine wpT_if (by rfl) (fun hc12 => ?_) (fun hc12 => ?_)
    · skip
      have p12 := hc12
      try simp only [decide_eq_true_eq, decide_eq_false_iff_not, beq_iff_eq, bne_iff_ne, beq_eq_false_iff_ne, bne_eq_false_iff_eq, Bool.not_eq_true', Bool.not_eq_false'] at p12
      have hlt : i < f.kept.length := by omega
      have hlt' : i < 20 := by omega
      have hg := at_map (f := Cyc.av) hlt
      refine wpT_skip ?_
      refine wpT_seq ?_
      refine wpT_block ?_
      refine wpT_seq ?_
      refine wpT_region (by kernel_rfl) (fun K hK => ?_)
      simp only [↓SP, SX, SW, TY, EN, sv_w, ↓reduceIte, reduceCtorEq, Nat.reduceEqDiff, Nat.reduceAdd, Nat.reduceLeDiff, Nat.reduceLT, Fan.av, e1, e3, hg, hg9, hc12]
      refine Pu.call (c13 _ (hf.2.2.2 _ (List.getElem_mem hlt))) ?_
      simp only [↓SP, SX, SW, TY, EN, sv_w, ↓reduceIte, reduceCtorEq, Nat.reduceEqDiff, Nat.reduceAdd, Nat.reduceLeDiff, Nat.reduceLT, Fan.av, e1, e3, hg, hg9, hc12]
      refine hK _ _ ?_
      clear hK K
      refine wpT_if (by rfl) (fun hc21 => ?_) (fun hc21 => ?_)
      · skip
        have p21 := hc21
        try simp only [decide_eq_true_eq, decide_eq_false_iff_not, beq_iff_eq, bne_iff_ne, beq_eq_false_iff_ne, bne_eq_false_iff_eq, Bool.not_eq_true', Bool.not_eq_false'] at p21
        have hne : ¬ fewF f := fun h => by
          exact p21 (h.2.2.2 f.kept[i] (List.getElem_mem hlt))
        refine wpT_seq ?_
        refine wpT_region (by kernel_rfl) (fun K hK => ?_)
        simp only [↓SP, SX, SW, TY, EN, sv_w, ↓reduceIte, reduceCtorEq, Nat.reduceEqDiff, Nat.reduceAdd, Nat.reduceLeDiff, Nat.reduceLT, Fan.av, hg9, hc12, hc21]
        refine hK _ _ ?_
        clear hK K
        refine wpT_ret ⟨.inr rfl, ?_⟩
        show optK (resA _ _ _ [.tmp 2]) _
        simp only [SR, Option.map_some, Option.bind_some, ↓SP, SX, SW, TY, EN, sv_w, ↓reduceIte, reduceCtorEq, Nat.reduceEqDiff, Nat.reduceAdd, Nat.reduceLeDiff, Nat.reduceLT, Fan.av, hg9, hc12, hc21]
        refine Lend.eq ?_
        congr 1
        first
          | (exfalso; omega)
          | simp only [hne, decide_false]
          | (have hn' := hn (by omega)
             simp only [hn', decide_false])
          | (have he' := he (by omega)
             simp only [he']
             first
               | (have q : f.app.length ≤ 10 := by omega
                  simp only [q, true_and]
                  exact decide_eq_decide.2 (by omega))
               | (have q : ¬ f.app.length ≤ 10 := by omega
                  simp only [q, false_and, decide_false]))
      · skip
        have p21 := hc21
        try simp only [decide_eq_true_eq, decide_eq_false_iff_not, beq_iff_eq, bne_iff_ne, beq_eq_false_iff_ne, bne_eq_false_iff_eq, Bool.not_eq_true', Bool.not_eq_false'] at p21
        have hx' : ∀ w ∈ f.kept.take (i + 1), fewC w := by
          intro w hw
          rw [List.take_add_one, List.getElem?_eq_getElem hlt] at hw
          rcases List.mem_append.1 hw with h | h
          · exact hx w h
          · simp at h; subst h; exact p21
        refine wpT_skip ?_
        refine wpT_inBlock ?_
        refine wpT_region (by kernel_rfl) (fun K hK => ?_)
        simp only [↓SP, SX, SW, TY, EN, sv_w, ↓reduceIte, reduceCtorEq, Nat.reduceEqDiff, Nat.reduceAdd, Nat.reduceLeDiff, Nat.reduceLT, Fan.av, e3, wrap64 (x := (i : Int) + 1) (by omega) (by omega), hg9, hc12, hc21]
        refine hK _ _ ?_
        clear hK K
        refine wpT_keep1 (i := 0) (o := .arr 26 4 [f.av]) (by simp only [↓SP, SX, SW, TY, EN, sv_w, ↓reduceIte, reduceCtorEq, Nat.reduceEqDiff, Nat.reduceAdd, Nat.reduceLeDiff, Nat.reduceLT, Fan.av]) ?_
        refine IH (i + 1) _ _ (by omega) ⟨⟨_, rfl⟩, by simp only [↓SP, SX, SW, TY, EN, sv_w, ↓reduceIte, reduceCtorEq, Nat.reduceEqDiff, Nat.reduceAdd, Nat.reduceLeDiff, Nat.reduceLT, Fan.av, e1], by simp only [↓SP, SX, SW, TY, EN, sv_w, ↓reduceIte, reduceCtorEq, Nat.reduceEqDiff, Nat.reduceAdd, Nat.reduceLeDiff, Nat.reduceLT, Fan.av, Int.natCast_add, Int.cast_ofNat_Int], by omega, by omega, hx'⟩
    · skip
      have p12 := hc12
      try simp only [decide_eq_true_eq, decide_eq_false_iff_not, beq_iff_eq, bne_iff_ne, beq_eq_false_iff_ne, bne_eq_false_iff_eq, Bool.not_eq_true', Bool.not_eq_false'] at p12
      have he : f.kept.length ≤ 16 → fewF f = (f.app.length ≤ 10 ∧ f.lost.length ≤ 10) := by
        intro h
        rw [List.take_of_length_le (by omega)] at hx
        exact propext ⟨fun h => ⟨h.2.1, h.2.2.1⟩, fun h' => ⟨h, h'.1, h'.2, hx⟩⟩
      have hn : ¬ f.kept.length ≤ 16 → ¬ fewF f := fun h h' => h h'.1
      refine wpT_exit rfl ?_
      refine wpT_seq ?_
      refine wpT_region (by kernel_rfl) (fun K hK => ?_)
      simp only [↓SP, SX, SW, TY, EN, sv_w, ↓reduceIte, reduceCtorEq, Nat.reduceEqDiff, Nat.reduceAdd, Nat.reduceLeDiff, Nat.reduceLT, Fan.av, e1, hg9, hc12]
      refine guardO_split (fun hg26 => ?_) (fun hg26 => ?_)
      · skip
        have p26 := hg26
        try simp only [decide_eq_true_eq, decide_eq_false_iff_not, beq_iff_eq, bne_iff_ne, beq_eq_false_iff_ne, bne_eq_false_iff_eq, Bool.not_eq_true', Bool.not_eq_false'] at p26
        simp only [↓SP, SX, SW, TY, EN, sv_w, ↓reduceIte, reduceCtorEq, Nat.reduceEqDiff, Nat.reduceAdd, Nat.reduceLeDiff, Nat.reduceLT, Fan.av, e1, hg9, hc12, hg26]
        refine guardO_split (fun hg32 => ?_) (fun hg32 => ?_)
        · skip
          have p32 := hg32
          try simp only [decide_eq_true_eq, decide_eq_false_iff_not, beq_iff_eq, bne_iff_ne, beq_eq_false_iff_ne, bne_eq_false_iff_eq, Bool.not_eq_true', Bool.not_eq_false'] at p32
          simp only [↓SP, SX, SW, TY, EN, sv_w, ↓reduceIte, reduceCtorEq, Nat.reduceEqDiff, Nat.reduceAdd, Nat.reduceLeDiff, Nat.reduceLT, Fan.av, e1, hg9, hc12, hg26, hg32]
          refine hK _ _ ?_
          clear hK K
          refine wpT_ret ⟨.inr rfl, ?_⟩
          show optK (resA _ _ _ [.tmp 2]) _
          simp only [SR, Option.map_some, Option.bind_some, ↓SP, SX, SW, TY, EN, sv_w, ↓reduceIte, reduceCtorEq, Nat.reduceEqDiff, Nat.reduceAdd, Nat.reduceLeDiff, Nat.reduceLT, Fan.av, hg9, hc12, hg26, hg32]
          refine Lend.eq ?_
          congr 1
          first
            | (exfalso; omega)
            | simp only [hne, decide_false]
            | (have hn' := hn (by omega)
               simp only [hn', decide_false])
            | (have he' := he (by omega)
               simp only [he']
               first
                 | (have q : f.app.length ≤ 10 := by omega
                    simp only [q, true_and]
                    exact decide_eq_decide.2 (by omega))
                 | (have q : ¬ f.app.length ≤ 10 := by omega
                    simp only [q, false_and, decide_false]))
        · skip
          simp only [Bool.not_true, Bool.not_false] at hg32
          have p32 := hg32
          try simp only [decide_eq_true_eq, decide_eq_false_iff_not, beq_iff_eq, bne_iff_ne, beq_eq_false_iff_ne, bne_eq_false_iff_eq, Bool.not_eq_true', Bool.not_eq_false'] at p32
          simp only [↓SP, SX, SW, TY, EN, sv_w, ↓reduceIte, reduceCtorEq, Nat.reduceEqDiff, Nat.reduceAdd, Nat.reduceLeDiff, Nat.reduceLT, Fan.av, e1, hg9, hc12, hg26, hg32]
          refine hK _ _ ?_
          clear hK K
          refine wpT_ret ⟨.inr rfl, ?_⟩
          show optK (resA _ _ _ [.tmp 2]) _
          simp only [SR, Option.map_some, Option.bind_some, ↓SP, SX, SW, TY, EN, sv_w, ↓reduceIte, reduceCtorEq, Nat.reduceEqDiff, Nat.reduceAdd, Nat.reduceLeDiff, Nat.reduceLT, Fan.av, hg9, hc12, hg26, hg32]
          refine Lend.eq ?_
          congr 1
          first
            | (exfalso; omega)
            | simp only [hne, decide_false]
            | (have hn' := hn (by omega)
               simp only [hn', decide_false])
            | (have he' := he (by omega)
               simp only [he']
               first
                 | (have q : f.app.length ≤ 10 := by omega
                    simp only [q, true_and]
                    exact decide_eq_decide.2 (by omega))
                 | (have q : ¬ f.app.length ≤ 10 := by omega
                    simp only [q, false_and, decide_false]))
      · skip
        simp only [Bool.not_true, Bool.not_false] at hg26
        have p26 := hg26
        try simp only [decide_eq_true_eq, decide_eq_false_iff_not, beq_iff_eq, bne_iff_ne, beq_eq_false_iff_ne, bne_eq_false_iff_eq, Bool.not_eq_true', Bool.not_eq_false'] at p26
        simp only [↓SP, SX, SW, TY, EN, sv_w, ↓reduceIte, reduceCtorEq, Nat.reduceEqDiff, Nat.reduceAdd, Nat.reduceLeDiff, Nat.reduceLT, Fan.av, e1, hg9, hc12, hg26]
        refine hK _ _ ?_
        clear hK K
        refine wpT_ret ⟨.inr rfl, ?_⟩
        show optK (resA _ _ _ [.tmp 2]) _
        simp only [SR, Option.map_some, Option.bind_some, ↓SP, SX, SW, TY, EN, sv_w, ↓reduceIte, reduceCtorEq, Nat.reduceEqDiff, Nat.reduceAdd, Nat.reduceLeDiff, Nat.reduceLT, Fan.av, hg9, hc12, hg26]
        refine Lend.eq ?_
        congr 1
        first
          | (exfalso; omega)
          | simp only [hne, decide_false]
          | (have hn' := hn (by omega)
             simp only [hn', decide_false])
          | (have he' := he (by omega)
             simp only [he']
             first
               | (have q : f.app.length ≤ 10 := by omega
                  simp only [q, true_and]
                  exact decide_eq_decide.2 (by omega))
               | (have q : ¬ f.app.length ≤ 10 := by omega
                  simp only [q, false_and, decide_false]))
  · skip
    simp only [Bool.not_true, Bool.not_false] at hg9
    have p9 := hg9
    try simp only [decide_eq_true_eq, decide_eq_false_iff_not, beq_iff_eq, bne_iff_ne, beq_eq_false_iff_ne, bne_eq_false_iff_eq, Bool.not_eq_true', Bool.not_eq_false'] at p9
    simp only [↓SP, SX, SW, TY, EN, sv_w, ↓reduceIte, reduceCtorEq, Nat.reduceEqDiff, Nat.reduceAdd, Nat.reduceLeDiff, Nat.reduceLT, Fan.av, e1, e3, hg9]
    refine hK _ _ ?_
    clear hK K
    refine wpT_ifF (by simp only [↓SP, SX, SW, TY, EN, sv_w, ↓reduceIte, reduceCtorEq, Nat.reduceEqDiff, Nat.reduceAdd, Nat.reduceLeDiff, Nat.reduceLT, Fan.av, hg9]) ?_
    have he : f.kept.length ≤ 16 → fewF f = (f.app.length ≤ 10 ∧ f.lost.length ≤ 10) := by
      intro h
      rw [List.take_of_length_le (by omega)] at hx
      exact propext ⟨fun h => ⟨h.2.1, h.2.2.1⟩, fun h' => ⟨h, h'.1, h'.2, hx⟩⟩
    have hn : ¬ f.kept.length ≤ 16 → ¬ fewF f := fun h h' => h h'.1
    refine wpT_exit rfl ?_
    refine wpT_seq ?_
    refine wpT_region (by kernel_rfl) (fun K hK => ?_)
    simp only [↓SP, SX, SW, TY, EN, sv_w, ↓reduceIte, reduceCtorEq, Nat.reduceEqDiff, Nat.reduceAdd, Nat.reduceLeDiff, Nat.reduceLT, Fan.av, e1, hg9]
    refine guardO_split (fun hg26 => ?_) (fun hg26 => ?_)
    · skip
      have p26 := hg26
      try simp only [decide_eq_true_eq, decide_eq_false_iff_not, beq_iff_eq, bne_iff_ne, beq_eq_false_iff_ne, bne_eq_false_iff_eq, Bool.not_eq_true', Bool.not_eq_false'] at p26
      simp only [↓SP, SX, SW, TY, EN, sv_w, ↓reduceIte, reduceCtorEq, Nat.reduceEqDiff, Nat.reduceAdd, Nat.reduceLeDiff, Nat.reduceLT, Fan.av, e1, hg9, hg26]
      refine guardO_split (fun hg32 => ?_) (fun hg32 => ?_)
      · skip
        have p32 := hg32
        try simp only [decide_eq_true_eq, decide_eq_false_iff_not, beq_iff_eq, bne_iff_ne, beq_eq_false_iff_ne, bne_eq_false_iff_eq, Bool.not_eq_true', Bool.not_eq_false'] at p32
        simp only [↓SP, SX, SW, TY, EN, sv_w, ↓reduceIte, reduceCtorEq, Nat.reduceEqDiff, Nat.reduceAdd, Nat.reduceLeDiff, Nat.reduceLT, Fan.av, e1, hg9, hg26, hg32]
        refine hK _ _ ?_
        clear hK K
        refine wpT_ret ⟨.inr rfl, ?_⟩
        show optK (resA _ _ _ [.tmp 2]) _
        simp only [SR, Option.map_some, Option.bind_some, ↓SP, SX, SW, TY, EN, sv_w, ↓reduceIte, reduceCtorEq, Nat.reduceEqDiff, Nat.reduceAdd, Nat.reduceLeDiff, Nat.reduceLT, Fan.av, hg9, hg26, hg32]
        refine Lend.eq ?_
        congr 1
        first
          | (exfalso; omega)
          | simp only [hne, decide_false]
          | (have hn' := hn (by omega)
             simp only [hn', decide_false])
          | (have he' := he (by omega)
             simp only [he']
             first
               | (have q : f.app.length ≤ 10 := by omega
                  simp only [q, true_and]
                  exact decide_eq_decide.2 (by omega))
               | (have q : ¬ f.app.length ≤ 10 := by omega
                  simp only [q, false_and, decide_false]))
      · skip
        simp only [Bool.not_true, Bool.not_false] at hg32
        have p32 := hg32
        try simp only [decide_eq_true_eq, decide_eq_false_iff_not, beq_iff_eq, bne_iff_ne, beq_eq_false_iff_ne, bne_eq_false_iff_eq, Bool.not_eq_true', Bool.not_eq_false'] at p32
        simp only [↓SP, SX, SW, TY, EN, sv_w, ↓reduceIte, reduceCtorEq, Nat.reduceEqDiff, Nat.reduceAdd, Nat.reduceLeDiff, Nat.reduceLT, Fan.av, e1, hg9, hg26, hg32]
        refine hK _ _ ?_
        clear hK K
        refine wpT_ret ⟨.inr rfl, ?_⟩
        show optK (resA _ _ _ [.tmp 2]) _
        simp only [SR, Option.map_some, Option.bind_some, ↓SP, SX, SW, TY, EN, sv_w, ↓reduceIte, reduceCtorEq, Nat.reduceEqDiff, Nat.reduceAdd, Nat.reduceLeDiff, Nat.reduceLT, Fan.av, hg9, hg26, hg32]
        refine Lend.eq ?_
        congr 1
        first
          | (exfalso; omega)
          | simp only [hne, decide_false]
          | (have hn' := hn (by omega)
             simp only [hn', decide_false])
          | (have he' := he (by omega)
             simp only [he']
             first
               | (have q : f.app.length ≤ 10 := by omega
                  simp only [q, true_and]
                  exact decide_eq_decide.2 (by omega))
               | (have q : ¬ f.app.length ≤ 10 := by omega
                  simp only [q, false_and, decide_false]))
    · skip
      simp only [Bool.not_true, Bool.not_false] at hg26
      have p26 := hg26
      try simp only [decide_eq_true_eq, decide_eq_false_iff_not, beq_iff_eq, bne_iff_ne, beq_eq_false_iff_ne, bne_eq_false_iff_eq, Bool.not_eq_true', Bool.not_eq_false'] at p26
      simp only [↓SP, SX, SW, TY, EN, sv_w, ↓reduceIte, reduceCtorEq, Nat.reduceEqDiff, Nat.reduceAdd, Nat.reduceLeDiff, Nat.reduceLT, Fan.av, e1, hg9, hg26]
      refine hK _ _ ?_
      clear hK K
      refine wpT_ret ⟨.inr rfl, ?_⟩
      show optK (resA _ _ _ [.tmp 2]) _
      simp only [SR, Option.map_some, Option.bind_some, ↓SP, SX, SW, TY, EN, sv_w, ↓reduceIte, reduceCtorEq, Nat.reduceEqDiff, Nat.reduceAdd, Nat.reduceLeDiff, Nat.reduceLT, Fan.av, hg9, hg26]
      refine Lend.eq ?_
      congr 1
      first
        | (exfalso; omega)
        | simp only [hne, decide_false]
        | (have hn' := hn (by omega)
           simp only [hn', decide_false])
        | (have he' := he (by omega)
           simp only [he']
           first
             | (have q : f.app.length ≤ 10 := by omega
                simp only [q, true_and]
                exact decide_eq_decide.2 (by omega))
             | (have q : ¬ f.app.length ≤ 10 := by omega
                simp only [q, false_and, decide_false]))
end Go.Proofs.Ytlmjpgmaefokdaa
end

section
set_option linter.unusedSimpArgs false
set_option linter.unusedVariables false
namespace Go.Proofs.Ytlmjpgmaefokdaa
open Go.Proofs
set_option maxRecDepth 10000
theorem bin_neqb {t : TypeId} (h : isBoolT Try.prog t = true) (a b : Bool) : opBinAny Try.prog .neq t (.bool a) (.bool b) = some (.bool (!(a == b))) := by simp [opBinAny, opBin, opEq, h]
theorem neqb (a b : Bool) : opBinAny Try.prog .neq 4 (.bool a) (.bool b) = some (.bool (!(a == b))) := bin_neqb ib4 a b
theorem c8 (x y : Fan) (hx : x.ok) : Pu Try.prog (.fn (.func 8) [] []) [x.av, y.av] (B (decide (x = y))) := by
  refine pu_func Try.func8 rfl (by kernel_rfl) (by show _ ≤ 75; simp only [List.length_append, List.length_cons, List.length_nil]; decide) (by simp only [IDF]) (by simp only [IDF, and_tt, implies_true]) (by simp only [IDF, fan_idf, and_tt, implies_true]) ?_
  rw [Try.ntmps8]
  refine wpT_seq ?_
  refine wpT_region (by kernel_rfl) (fun K hK => ?_)
  simp only [↓SP, SX, SW, TY, EN, sv_w, ↓reduceIte, reduceCtorEq, Nat.reduceEqDiff, Nat.reduceAdd, Nat.reduceLeDiff, Nat.reduceLT, Fan.av]
  refine hK _ _ ?_
  clear hK K
  refine wpT_seq ?_
  refine wpT_seq ?_
  refine wpT_region (by kernel_rfl) (fun K hK => ?_)
  simp only [↓SP, SX, SW, TY, EN, sv_w, ↓reduceIte, reduceCtorEq, Nat.reduceEqDiff, Nat.reduceAdd, Nat.reduceLeDiff, Nat.reduceLT, Fan.av]
  refine guardO_split (fun hg12 => ?_) (fun hg12 => ?_)
  · skip
    have p12 := hg12
    try simp only [decide_eq_true_eq, decide_eq_false_iff_not, beq_iff_eq, bne_iff_ne, beq_eq_false_iff_ne, bne_eq_false_iff_eq, Bool.not_eq_true', Bool.not_eq_false'] at p12
    simp only [↓SP, SX, SW, TY, EN, sv_w, ↓reduceIte, reduceCtorEq, Nat.reduceEqDiff, Nat.reduceAdd, Nat.reduceLeDiff, Nat.reduceLT, Fan.av, hg12]
    refine Pu.call (c21 _ _ hx.2.1) ?_
    simp only [↓SP, SX, SW, TY, EN, sv_w, ↓reduceIte, reduceCtorEq, Nat.reduceEqDiff, Nat.reduceAdd, Nat.reduceLeDiff, Nat.reduceLT, Fan.av, hg12]
    refine guardO_split (fun hg20 => ?_) (fun hg20 => ?_)
    · skip
      have p20 := hg20
      try simp only [decide_eq_true_eq, decide_eq_false_iff_not, beq_iff_eq, bne_iff_ne, beq_eq_false_iff_ne, bne_eq_false_iff_eq, Bool.not_eq_true', Bool.not_eq_false'] at p20
      simp only [↓SP, SX, SW, TY, EN, sv_w, ↓reduceIte, reduceCtorEq, Nat.reduceEqDiff, Nat.reduceAdd, Nat.reduceLeDiff, Nat.reduceLT, Fan.av, hg12, hg20]
      refine guardO_split (fun hg29 => ?_) (fun hg29 => ?_)
      · skip
        have p29 := hg29
        try simp only [decide_eq_true_eq, decide_eq_false_iff_not, beq_iff_eq, bne_iff_ne, beq_eq_false_iff_ne, bne_eq_false_iff_eq, Bool.not_eq_true', Bool.not_eq_false'] at p29
        simp only [↓SP, SX, SW, TY, EN, sv_w, ↓reduceIte, reduceCtorEq, Nat.reduceEqDiff, Nat.reduceAdd, Nat.reduceLeDiff, Nat.reduceLT, Fan.av, hg12, hg20, hg29]
        refine hK _ _ ?_
        clear hK K
        refine wpT_if (by rfl) (fun hc37 => ?_) (fun hc37 => ?_)
        · skip
          have p37 := hc37
          try simp only [decide_eq_true_eq, decide_eq_false_iff_not, beq_iff_eq, bne_iff_ne, beq_eq_false_iff_ne, bne_eq_false_iff_eq, Bool.not_eq_true', Bool.not_eq_false'] at p37
          have hne : x ≠ y := by rintro rfl; simp_all
          refine wpT_seq ?_
          refine wpT_region (by kernel_rfl) (fun K hK => ?_)
          simp only [↓SP, SX, SW, TY, EN, sv_w, ↓reduceIte, reduceCtorEq, Nat.reduceEqDiff, Nat.reduceAdd, Nat.reduceLeDiff, Nat.reduceLT, Fan.av, hg12, hg20, hg29, hc37]
          refine hK _ _ ?_
          clear hK K
          refine wpT_ret ⟨.inr rfl, ?_⟩
          show optK (resA _ _ _ [.tmp 4]) _
          simp only [SR, Option.map_some, Option.bind_some, ↓SP, SX, SW, TY, EN, sv_w, ↓reduceIte, reduceCtorEq, Nat.reduceEqDiff, Nat.reduceAdd, Nat.reduceLeDiff, Nat.reduceLT, Fan.av, hg12, hg20, hg29, hc37]
          refine Lend.eq ?_
          first
            | simp only [hne, decide_false]
            | simp only [he, decide_true]
        · skip
          have p37 := hc37
          try simp only [decide_eq_true_eq, decide_eq_false_iff_not, beq_iff_eq, bne_iff_ne, beq_eq_false_iff_ne, bne_eq_false_iff_eq, Bool.not_eq_true', Bool.not_eq_false'] at p37
          have h1 : x.limit = y.limit := by simp_all
          have h2 : x.app = y.app := by simp_all
          have h3 : x.kept.length = y.kept.length := by omega
          have h4 : x.lost.length = y.lost.length := by omega
          refine wpT_skip ?_
          refine wpT_seq ?_
          refine wpT_seq ?_
          refine wpT_region (by kernel_rfl) (fun K hK => ?_)
          simp only [↓SP, SX, SW, TY, EN, sv_w, ↓reduceIte, reduceCtorEq, Nat.reduceEqDiff, Nat.reduceAdd, Nat.reduceLeDiff, Nat.reduceLT, Fan.av, hg12, hg20, hg29, hc37]
          refine hK _ _ ?_
          clear hK K
          refine wpT_block ?_
          refine wpT_loop ?_
          refine wpT_keep2 (i := 0) (j := 1) (o := .arr 26 4 [x.av]) (q := .arr 26 4 [y.av]) (by simp only [↓SP, SX, SW, TY, EN, sv_w, ↓reduceIte, reduceCtorEq, Nat.reduceEqDiff, Nat.reduceAdd, Nat.reduceLeDiff, Nat.reduceLT, Fan.av]) (by simp only [↓SP, SX, SW, TY, EN, sv_w, ↓reduceIte, reduceCtorEq, Nat.reduceEqDiff, Nat.reduceAdd, Nat.reduceLeDiff, Nat.reduceLT, Fan.av]) ?_
          refine wpT_ind (fun (i : Nat) tm' h' => (∃ m, h' = Hp.of [(0, .arr 26 4 [x.av]), (1, .arr 26 4 [y.av])] (m + 2)) ∧ tm' 2 = .ptr 0 1 0 0 ∧ tm' 3 = .ptr 1 1 0 0 ∧ tm' 5 = I i ∧ i ≤ x.kept.length ∧ x.kept.take i = y.kept.take i) (fun i => x.kept.length - i) ?_ 0 ⟨⟨0, rfl⟩, rfl, rfl, rfl, Nat.zero_le _, rfl⟩
          rintro i tm' _ ⟨⟨m, rfl⟩, e2, e3, e5, hi, hk⟩ IH
          have hk1 := hx.1
          refine wpT_inLoop ?_
          refine wpT_seq ?_
          refine wpT_seq ?_
          refine wpT_region (by kernel_rfl) (fun K hK => ?_)
          simp only [↓SP, SX, SW, TY, EN, sv_w, ↓reduceIte, reduceCtorEq, Nat.reduceEqDiff, Nat.reduceAdd, Nat.reduceLeDiff, Nat.reduceLT, Fan.av, e2, e5]
          refine hK _ _ ?_
          clear hK K
          refine wpT_if (by rfl) (fun hc42 => ?_) (fun hc42 => ?_)
          · skip
            have p42 := hc42
            try simp only [decide_eq_true_eq, decide_eq_false_iff_not, beq_iff_eq, bne_iff_ne, beq_eq_false_iff_ne, bne_eq_false_iff_eq, Bool.not_eq_true', Bool.not_eq_false'] at p42
            have hlt : i < x.kept.length := by omega
            have hlt' : i < y.kept.length := by omega
            have hg := at_map (f := Cyc.av) hlt
            have hg' := at_map (f := Cyc.av) hlt'
            refine wpT_skip ?_
            refine wpT_seq ?_
            refine wpT_block ?_
            refine wpT_seq ?_
            refine wpT_drawn [] mixed (by kernel_rfl) (m := 12) rfl (fun K hK => ?_)
            simp only [↓SP, SX, SW, TY, EN, sv_w, ↓reduceIte, reduceCtorEq, Nat.reduceEqDiff, Nat.reduceAdd, Nat.reduceLeDiff, Nat.reduceLT, Fan.av, e2, e3, e5, hg, hg', hc42]
            refine Pu.callD (c22 _ _ (hx.2.2.2 _ (List.getElem_mem hlt))) ?_
            simp only [↓SP, SX, SW, TY, EN, sv_w, ↓reduceIte, reduceCtorEq, Nat.reduceEqDiff, Nat.reduceAdd, Nat.reduceLeDiff, Nat.reduceLT, Fan.av, e2, e3, e5, hg, hg', hc42]
            refine hK _ _ ?_
            clear hK K
            refine wpT_if (by rfl) (fun hc56 => ?_) (fun hc56 => ?_)
            · skip
              have p56 := hc56
              try simp only [decide_eq_true_eq, decide_eq_false_iff_not, beq_iff_eq, bne_iff_ne, beq_eq_false_iff_ne, bne_eq_false_iff_eq, Bool.not_eq_true', Bool.not_eq_false'] at p56
              have hne : x ≠ y := by
                rintro rfl
                simp at p56
              refine wpT_seq ?_
              refine wpT_region (by kernel_rfl) (fun K hK => ?_)
              simp only [↓SP, SX, SW, TY, EN, sv_w, ↓reduceIte, reduceCtorEq, Nat.reduceEqDiff, Nat.reduceAdd, Nat.reduceLeDiff, Nat.reduceLT, Fan.av, hc42, hc56]
              refine hK _ _ ?_
              clear hK K
              refine wpT_ret ⟨.inr rfl, ?_⟩
              show optK (resA _ _ _ [.tmp 4]) _
              simp only [SR, Option.map_some, Option.bind_some, ↓SP, SX, SW, TY, EN, sv_w, ↓reduceIte, reduceCtorEq, Nat.reduceEqDiff, Nat.reduceAdd, Nat.reduceLeDiff, Nat.reduceLT, Fan.av, hc42, hc56]
              refine Lend.eq ?_
              first
                | simp only [hne, decide_false]
                | simp only [he, decide_true]
            · skip
              have p56 := hc56
              try simp only [decide_eq_true_eq, decide_eq_false_iff_not, beq_iff_eq, bne_iff_ne, beq_eq_false_iff_ne, bne_eq_false_iff_eq, Bool.not_eq_true', Bool.not_eq_false'] at p56
              have hk' := take_step hlt hlt' hk (by simpa using p56)
              refine wpT_skip ?_
              refine wpT_inBlock ?_
              refine wpT_region (by kernel_rfl) (fun K hK => ?_)
              simp only [↓SP, SX, SW, TY, EN, sv_w, ↓reduceIte, reduceCtorEq, Nat.reduceEqDiff, Nat.reduceAdd, Nat.reduceLeDiff, Nat.reduceLT, Fan.av, e5, wrap64 (x := (i : Int) + 1) (by omega) (by omega), hc42, hc56]
              refine hK _ _ ?_
              clear hK K
              refine wpT_keep2 (i := 0) (j := 1) (o := .arr 26 4 [x.av]) (q := .arr 26 4 [y.av]) (by simp only [↓SP, SX, SW, TY, EN, sv_w, ↓reduceIte, reduceCtorEq, Nat.reduceEqDiff, Nat.reduceAdd, Nat.reduceLeDiff, Nat.reduceLT, Fan.av]) (by simp only [↓SP, SX, SW, TY, EN, sv_w, ↓reduceIte, reduceCtorEq, Nat.reduceEqDiff, Nat.reduceAdd, Nat.reduceLeDiff, Nat.reduceLT, Fan.av]) ?_
              refine IH (i + 1) _ _ (by omega) ⟨⟨_, rfl⟩, by simp only [↓SP, SX, SW, TY, EN, sv_w, ↓reduceIte, reduceCtorEq, Nat.reduceEqDiff, Nat.reduceAdd, Nat.reduceLeDiff, Nat.reduceLT, Fan.av, e2], by simp only [↓SP, SX, SW, TY, EN, sv_w, ↓reduceIte, reduceCtorEq, Nat.reduceEqDiff, Nat.reduceAdd, Nat.reduceLeDiff, Nat.reduceLT, Fan.av, e3], by simp only [↓SP, SX, SW, TY, EN, sv_w, ↓reduceIte, reduceCtorEq, Nat.reduceEqDiff, Nat.reduceAdd, Nat.reduceLeDiff, Nat.reduceLT, Fan.av, Int.natCast_add, Int.cast_ofNat_Int], by omega, hk'⟩
          · skip
            have p42 := hc42
            try simp only [decide_eq_true_eq, decide_eq_false_iff_not, beq_iff_eq, bne_iff_ne, beq_eq_false_iff_ne, bne_eq_false_iff_eq, Bool.not_eq_true', Bool.not_eq_false'] at p42
            have h5 : x.kept = y.kept := by
              rw [List.take_of_length_le (by omega), List.take_of_length_le (by omega)] at hk
              exact hk
            clear IH
            refine wpT_exit rfl ?_
            refine wpT_seq ?_
            refine wpT_seq ?_
            refine wpT_region (by kernel_rfl) (fun K hK => ?_)
            simp only [↓SP, SX, SW, TY, EN, sv_w, ↓reduceIte, reduceCtorEq, Nat.reduceEqDiff, Nat.reduceAdd, Nat.reduceLeDiff, Nat.reduceLT, Fan.av, hc42]
            refine hK _ _ ?_
            clear hK K
            refine wpT_block ?_
            refine wpT_loop ?_
            refine wpT_keep2 (i := 0) (j := 1) (o := .arr 26 4 [x.av]) (q := .arr 26 4 [y.av]) (by simp only [↓SP, SX, SW, TY, EN, sv_w, ↓reduceIte, reduceCtorEq, Nat.reduceEqDiff, Nat.reduceAdd, Nat.reduceLeDiff, Nat.reduceLT, Fan.av]) (by simp only [↓SP, SX, SW, TY, EN, sv_w, ↓reduceIte, reduceCtorEq, Nat.reduceEqDiff, Nat.reduceAdd, Nat.reduceLeDiff, Nat.reduceLT, Fan.av]) ?_
            refine wpT_ind (fun (i : Nat) tm' h' => (∃ m, h' = Hp.of [(0, .arr 26 4 [x.av]), (1, .arr 26 4 [y.av])] (m + 2)) ∧ tm' 2 = .ptr 0 1 0 0 ∧ tm' 3 = .ptr 1 1 0 0 ∧ tm' 6 = I i ∧ i ≤ x.lost.length ∧ x.lost.take i = y.lost.take i) (fun i => x.lost.length - i) ?_ 0 ⟨⟨m, rfl⟩, by simp only [↓SP, SX, SW, TY, EN, sv_w, ↓reduceIte, reduceCtorEq, Nat.reduceEqDiff, Nat.reduceAdd, Nat.reduceLeDiff, Nat.reduceLT, Fan.av, e2], by simp only [↓SP, SX, SW, TY, EN, sv_w, ↓reduceIte, reduceCtorEq, Nat.reduceEqDiff, Nat.reduceAdd, Nat.reduceLeDiff, Nat.reduceLT, Fan.av, e3], rfl, Nat.zero_le _, rfl⟩
            clear e2 e3 e5 hi
            rintro i tm' _ ⟨⟨m, rfl⟩, e2, e3, e6, hi, hb⟩ IH
            have hk1 := hx.2.2.1
            refine wpT_inLoop ?_
            refine wpT_seq ?_
            refine wpT_seq ?_
            refine wpT_region (by kernel_rfl) (fun K hK => ?_)
            simp only [↓SP, SX, SW, TY, EN, sv_w, ↓reduceIte, reduceCtorEq, Nat.reduceEqDiff, Nat.reduceAdd, Nat.reduceLeDiff, Nat.reduceLT, Fan.av, e2, e6]
            refine hK _ _ ?_
            clear hK K
            refine wpT_if (by rfl) (fun hc61 => ?_) (fun hc61 => ?_)
            · skip
              have p61 := hc61
              try simp only [decide_eq_true_eq, decide_eq_false_iff_not, beq_iff_eq, bne_iff_ne, beq_eq_false_iff_ne, bne_eq_false_iff_eq, Bool.not_eq_true', Bool.not_eq_false'] at p61
              have hlt : i < x.lost.length := by omega
              have hlt' : i < y.lost.length := by omega
              have hg := at_map (f := B) hlt
              have hg' := at_map (f := B) hlt'
              refine wpT_skip ?_
              refine wpT_seq ?_
              refine wpT_block ?_
              refine wpT_seq ?_
              refine wpT_drawn [] mixed (by kernel_rfl) (m := 11) rfl (fun K hK => ?_)
              simp only [↓SP, SX, SW, TY, EN, sv_w, ↓reduceIte, reduceCtorEq, Nat.reduceEqDiff, Nat.reduceAdd, Nat.reduceLeDiff, Nat.reduceLT, Fan.av, e2, e3, e6, hg, hg', neqb, hc61]
              refine hK _ _ ?_
              clear hK K
              refine wpT_if (by rfl) (fun hc74 => ?_) (fun hc74 => ?_)
              · skip
                have p74 := hc74
                try simp only [decide_eq_true_eq, decide_eq_false_iff_not, beq_iff_eq, bne_iff_ne, beq_eq_false_iff_ne, bne_eq_false_iff_eq, Bool.not_eq_true', Bool.not_eq_false'] at p74
                have hne : x ≠ y := by
                  rintro rfl
                  simp at p74
                refine wpT_seq ?_
                refine wpT_region (by kernel_rfl) (fun K hK => ?_)
                simp only [↓SP, SX, SW, TY, EN, sv_w, ↓reduceIte, reduceCtorEq, Nat.reduceEqDiff, Nat.reduceAdd, Nat.reduceLeDiff, Nat.reduceLT, Fan.av, hc61, hc74]
                refine hK _ _ ?_
                clear hK K
                refine wpT_ret ⟨.inr rfl, ?_⟩
                show optK (resA _ _ _ [.tmp 4]) _
                simp only [SR, Option.map_some, Option.bind_some, ↓SP, SX, SW, TY, EN, sv_w, ↓reduceIte, reduceCtorEq, Nat.reduceEqDiff, Nat.reduceAdd, Nat.reduceLeDiff, Nat.reduceLT, Fan.av, hc61, hc74]
                refine Lend.eq ?_
                first
                  | simp only [hne, decide_false]
                  | simp only [he, decide_true]
              · skip
                have p74 := hc74
                try simp only [decide_eq_true_eq, decide_eq_false_iff_not, beq_iff_eq, bne_iff_ne, beq_eq_false_iff_ne, bne_eq_false_iff_eq, Bool.not_eq_true', Bool.not_eq_false'] at p74
                have hb' := take_step hlt hlt' hb (by simpa using p74)
                refine wpT_skip ?_
                refine wpT_inBlock ?_
                refine wpT_region (by kernel_rfl) (fun K hK => ?_)
                simp only [↓SP, SX, SW, TY, EN, sv_w, ↓reduceIte, reduceCtorEq, Nat.reduceEqDiff, Nat.reduceAdd, Nat.reduceLeDiff, Nat.reduceLT, Fan.av, e6, wrap64 (x := (i : Int) + 1) (by omega) (by omega), hc61, hc74]
                refine hK _ _ ?_
                clear hK K
                refine wpT_keep2 (i := 0) (j := 1) (o := .arr 26 4 [x.av]) (q := .arr 26 4 [y.av]) (by simp only [↓SP, SX, SW, TY, EN, sv_w, ↓reduceIte, reduceCtorEq, Nat.reduceEqDiff, Nat.reduceAdd, Nat.reduceLeDiff, Nat.reduceLT, Fan.av]) (by simp only [↓SP, SX, SW, TY, EN, sv_w, ↓reduceIte, reduceCtorEq, Nat.reduceEqDiff, Nat.reduceAdd, Nat.reduceLeDiff, Nat.reduceLT, Fan.av]) ?_
                refine IH (i + 1) _ _ (by omega) ⟨⟨_, rfl⟩, by simp only [↓SP, SX, SW, TY, EN, sv_w, ↓reduceIte, reduceCtorEq, Nat.reduceEqDiff, Nat.reduceAdd, Nat.reduceLeDiff, Nat.reduceLT, Fan.av, e2], by simp only [↓SP, SX, SW, TY, EN, sv_w, ↓reduceIte, reduceCtorEq, Nat.reduceEqDiff, Nat.reduceAdd, Nat.reduceLeDiff, Nat.reduceLT, Fan.av, e3], by simp only [↓SP, SX, SW, TY, EN, sv_w, ↓reduceIte, reduceCtorEq, Nat.reduceEqDiff, Nat.reduceAdd, Nat.reduceLeDiff, Nat.reduceLT, Fan.av, Int.natCast_add, Int.cast_ofNat_Int], by omega, hb'⟩
            · skip
              have p61 := hc61
              try simp only [decide_eq_true_eq, decide_eq_false_iff_not, beq_iff_eq, bne_iff_ne, beq_eq_false_iff_ne, bne_eq_false_iff_eq, Bool.not_eq_true', Bool.not_eq_false'] at p61
              have he : x = y := by
                rw [List.take_of_length_le (by omega), List.take_of_length_le (by omega)] at hb
                exact fan_ext h1 h5 h2 hb
              refine wpT_exit rfl ?_
              refine wpT_seq ?_
              refine wpT_region (by kernel_rfl) (fun K hK => ?_)
              simp only [↓SP, SX, SW, TY, EN, sv_w, ↓reduceIte, reduceCtorEq, Nat.reduceEqDiff, Nat.reduceAdd, Nat.reduceLeDiff, Nat.reduceLT, Fan.av, hc61]
              refine hK _ _ ?_
              clear hK K
              refine wpT_ret ⟨.inr rfl, ?_⟩
              show optK (resA _ _ _ [.tmp 4]) _
              simp only [SR, Option.map_some, Option.bind_some, ↓SP, SX, SW, TY, EN, sv_w, ↓reduceIte, reduceCtorEq, Nat.reduceEqDiff, Nat.reduceAdd, Nat.reduceLeDiff, Nat.reduceLT, Fan.av, hc61]
              refine Lend.eq ?_
              first
                | simp only [hne, decide_false]
                | simp only [he, decide_true]
      · skip
        simp only [Bool.not_true, Bool.not_false] at hg29
        have p29 := hg29
        try simp only [decide_eq_true_eq, decide_eq_false_iff_not, beq_iff_eq, bne_iff_ne, beq_eq_false_iff_ne, bne_eq_false_iff_eq, Bool.not_eq_true', Bool.not_eq_false'] at p29
        simp only [↓SP, SX, SW, TY, EN, sv_w, ↓reduceIte, reduceCtorEq, Nat.reduceEqDiff, Nat.reduceAdd, Nat.reduceLeDiff, Nat.reduceLT, Fan.av, hg12, hg20, hg29]
        refine hK _ _ ?_
        clear hK K
        refine wpT_ifT (by simp only [↓SP, SX, SW, TY, EN, sv_w, ↓reduceIte, reduceCtorEq, Nat.reduceEqDiff, Nat.reduceAdd, Nat.reduceLeDiff, Nat.reduceLT, Fan.av, hg12, hg20, hg29]) ?_
        have hne : x ≠ y := by rintro rfl; simp_all
        refine wpT_seq ?_
        refine wpT_region (by kernel_rfl) (fun K hK => ?_)
        simp only [↓SP, SX, SW, TY, EN, sv_w, ↓reduceIte, reduceCtorEq, Nat.reduceEqDiff, Nat.reduceAdd, Nat.reduceLeDiff, Nat.reduceLT, Fan.av, hg12, hg20, hg29]
        refine hK _ _ ?_
        clear hK K
        refine wpT_ret ⟨.inr rfl, ?_⟩
        show optK (resA _ _ _ [.tmp 4]) _
        simp only [SR, Option.map_some, Option.bind_some, ↓SP, SX, SW, TY, EN, sv_w, ↓reduceIte, reduceCtorEq, Nat.reduceEqDiff, Nat.reduceAdd, Nat.reduceLeDiff, Nat.reduceLT, Fan.av, hg12, hg20, hg29]
        refine Lend.eq ?_
        first
          | simp only [hne, decide_false]
          | simp only [he, decide_true]
    · skip
      simp only [Bool.not_true, Bool.not_false] at hg20
      have p20 := hg20
      try simp only [decide_eq_true_eq, decide_eq_false_iff_not, beq_iff_eq, bne_iff_ne, beq_eq_false_iff_ne, bne_eq_false_iff_eq, Bool.not_eq_true', Bool.not_eq_false'] at p20
      simp only [↓SP, SX, SW, TY, EN, sv_w, ↓reduceIte, reduceCtorEq, Nat.reduceEqDiff, Nat.reduceAdd, Nat.reduceLeDiff, Nat.reduceLT, Fan.av, hg12, hg20]
      refine hK _ _ ?_
      clear hK K
      refine wpT_ifT (by simp only [↓SP, SX, SW, TY, EN, sv_w, ↓reduceIte, reduceCtorEq, Nat.reduceEqDiff, Nat.reduceAdd, Nat.reduceLeDiff, Nat.reduceLT, Fan.av, hg12, hg20]) ?_
      have hne : x ≠ y := by rintro rfl; simp_all
      refine wpT_seq ?_
      refine wpT_region (by kernel_rfl) (fun K hK => ?_)
      simp only [↓SP, SX, SW, TY, EN, sv_w, ↓reduceIte, reduceCtorEq, Nat.reduceEqDiff, Nat.reduceAdd, Nat.reduceLeDiff, Nat.reduceLT, Fan.av, hg12, hg20]
      refine hK _ _ ?_
      clear hK K
      refine wpT_ret ⟨.inr rfl, ?_⟩
      show optK (resA _ _ _ [.tmp 4]) _
      simp only [SR, Option.map_some, Option.bind_some, ↓SP, SX, SW, TY, EN, sv_w, ↓reduceIte, reduceCtorEq, Nat.reduceEqDiff, Nat.reduceAdd, Nat.reduceLeDiff, Nat.reduceLT, Fan.av, hg12, hg20]
      refine Lend.eq ?_
      first
        | simp only [hne, decide_false]
        | simp only [he, decide_true]
  · skip
    simp only [Bool.not_true, Bool.not_false] at hg12
    have p12 := hg12
    try simp only [decide_eq_true_eq, decide_eq_false_iff_not, beq_iff_eq, bne_iff_ne, beq_eq_false_iff_ne, bne_eq_false_iff_eq, Bool.not_eq_true', Bool.not_eq_false'] at p12
    simp only [↓SP, SX, SW, TY, EN, sv_w, ↓reduceIte, reduceCtorEq, Nat.reduceEqDiff, Nat.reduceAdd, Nat.reduceLeDiff, Nat.reduceLT, Fan.av, hg12]
    refine hK _ _ ?_
    clear hK K
    refine wpT_ifT (by simp only [↓SP, SX, SW, TY, EN, sv_w, ↓reduceIte, reduceCtorEq, Nat.reduceEqDiff, Nat.reduceAdd, Nat.reduceLeDiff, Nat.reduceLT, Fan.av, hg12]) ?_
    have hne : x ≠ y := by rintro rfl; simp_all
    refine wpT_seq ?_
    refine wpT_region (by kernel_rfl) (fun K hK => ?_)
    simp only [↓SP, SX, SW, TY, EN, sv_w, ↓reduceIte, reduceCtorEq, Nat.reduceEqDiff, Nat.reduceAdd, Nat.reduceLeDiff, Nat.reduceLT, Fan.av, hg12]
    refine hK _ _ ?_
    clear hK K
    refine wpT_ret ⟨.inr rfl, ?_⟩
    show optK (resA _ _ _ [.tmp 4]) _
    simp only [SR, Option.map_some, Option.bind_some, ↓SP, SX, SW, TY, EN, sv_w, ↓reduceIte, reduceCtorEq, Nat.reduceEqDiff, Nat.reduceAdd, Nat.reduceLeDiff, Nat.reduceLT, Fan.av, hg12]
    refine Lend.eq ?_
    first
      | simp only [hne, decide_false]
      | simp only [he, decide_true]
end Go.Proofs.Ytlmjpgmaefokdaa
end

section
set_option linter.unusedSimpArgs false
set_option linter.unusedVariables false
namespace Go.Proofs.Ytlmjpgmaefokdaa
open Go.Proofs
set_option maxRecDepth 10000
def szR : List Int → Int
  | [] => 0
  | x :: xs => if x < 1 ∨ x > 4096 then 2 else szR xs
def sizesE (xs : List Int) : Int := if xs.length < 1 ∨ xs.length > 8 then 6 else szR xs
def posR : List Int → Int
  | [] => 0
  | x :: xs => if x < 0 ∨ x > 1073741824 then 2 else posR xs
def fitsE (sz : List Int) (w : Wr) : Int :=
  if w.vol < 0 ∨ w.vol ≥ sz.length then 7 else if w.data.length = 0 then 1 else
  if w.start < 0 ∨ w.start ≥ sz.getD w.vol.toNat 0 ∨ w.data.length > sz.getD w.vol.toNat 0 - w.start then 2 else 0
theorem szR_le : ∀ {xs : List Int}, szR xs = 0 → ∀ x ∈ xs, 1 ≤ x ∧ x ≤ 4096
  | [], _ => by simp
  | x :: xs, h => by
    rw [szR] at h
    split at h
    · simp at h
    · intro y hy
      rcases List.mem_cons.1 hy with rfl | hy
      · omega
      · exact szR_le h y hy
theorem sizesE_le {xs : List Int} (h : sizesE xs = 0) : ∀ x ∈ xs, 1 ≤ x ∧ x ≤ 4096 := by
  unfold sizesE at h
  split at h
  · simp at h
  · exact szR_le h
theorem c55 (xs : List Int) (hl : xs.length < 4611686018427387904) : Pu Try.prog (.fn (.func 55) [] []) [.lst (xs.map I)] (I (posR xs)) := by
  refine pu_func Try.func55 rfl (by kernel_rfl) (by show _ ≤ 22; simp only [List.length_append, List.length_cons, List.length_nil]; decide) (by simp only [IDF, and_tt, implies_true]) (by simp only [IDF, and_tt, implies_true]) (by simp only [IDF, and_tt, implies_true]) ?_
  rw [Try.ntmps55]
  refine wpT_seq ?_
  refine wpT_region (by kernel_rfl) (fun K hK => ?_)
  simp only [↓SP, SX, SW, TY, EN, sv_w, ↓reduceIte, reduceCtorEq, Nat.reduceEqDiff, Nat.reduceAdd, Nat.reduceLeDiff, Nat.reduceLT]
  refine hK _ _ ?_
  clear hK K
  refine wpT_seq ?_
  refine wpT_seq ?_
  refine wpT_region (by kernel_rfl) (fun K hK => ?_)
  simp only [↓SP, SX, SW, TY, EN, sv_w, ↓reduceIte, reduceCtorEq, Nat.reduceEqDiff, Nat.reduceAdd, Nat.reduceLeDiff, Nat.reduceLT]
  refine hK _ _ ?_
  clear hK K
  refine wpT_block ?_
  refine wpT_loop ?_
  refine wpT_keep0 ?_
  refine wpT_ind (fun (i : Nat) tm' h' => (∃ m, h' = Hp.of [] m) ∧ tm' 0 = .lst (xs.map I) ∧ tm' 3 = I i ∧ i ≤ xs.length ∧ posR (xs.drop i) = posR xs) (fun i => xs.length - i) ?_ 0 ⟨⟨_, rfl⟩, rfl, rfl, Nat.zero_le _, rfl⟩
  rintro i tm' _ ⟨⟨m, rfl⟩, e0, e3, hi, hx⟩ IH
  refine wpT_inLoop ?_
  refine wpT_seq ?_
  refine wpT_seq ?_
  refine wpT_region (by kernel_rfl) (fun K hK => ?_)
  simp only [↓SP, SX, SW, TY, EN, sv_w, ↓reduceIte, reduceCtorEq, Nat.reduceEqDiff, Nat.reduceAdd, Nat.reduceLeDiff, Nat.reduceLT, e0, e3]
  refine hK _ _ ?_
  clear hK K
  refine wpT_if (by rfl) (fun hc7 => ?_) (fun hc7 => ?_)
  · skip
    have p7 := hc7
    try simp only [decide_eq_true_eq, decide_eq_false_iff_not, beq_iff_eq, bne_iff_ne, beq_eq_false_iff_ne, bne_eq_false_iff_eq, Bool.not_eq_true', Bool.not_eq_false'] at p7
    have hlt : i < xs.length := by omega
    have hg := at_map (f := I) hlt
    rw [List.drop_eq_getElem_cons hlt, posR] at hx
    refine wpT_skip ?_
    refine wpT_seq ?_
    refine wpT_block ?_
    refine wpT_seq ?_
    refine wpT_region (by kernel_rfl) (fun K hK => ?_)
    simp only [↓SP, SX, SW, TY, EN, sv_w, ↓reduceIte, reduceCtorEq, Nat.reduceEqDiff, Nat.reduceAdd, Nat.reduceLeDiff, Nat.reduceLT, e0, e3, hg, hc7]
    refine guardO_split (fun hg15 => ?_) (fun hg15 => ?_)
    · skip
      have p15 := hg15
      try simp only [decide_eq_true_eq, decide_eq_false_iff_not, beq_iff_eq, bne_iff_ne, beq_eq_false_iff_ne, bne_eq_false_iff_eq, Bool.not_eq_true', Bool.not_eq_false'] at p15
      simp only [↓SP, SX, SW, TY, EN, sv_w, ↓reduceIte, reduceCtorEq, Nat.reduceEqDiff, Nat.reduceAdd, Nat.reduceLeDiff, Nat.reduceLT, e0, e3, hg, hc7, hg15]
      refine hK _ _ ?_
      clear hK K
      refine wpT_if (by rfl) (fun hc21 => ?_) (fun hc21 => ?_)
      · skip
        have p21 := hc21
        try simp only [decide_eq_true_eq, decide_eq_false_iff_not, beq_iff_eq, bne_iff_ne, beq_eq_false_iff_ne, bne_eq_false_iff_eq, Bool.not_eq_true', Bool.not_eq_false'] at p21
        refine wpT_seq ?_
        refine wpT_region (by kernel_rfl) (fun K hK => ?_)
        simp only [↓SP, SX, SW, TY, EN, sv_w, ↓reduceIte, reduceCtorEq, Nat.reduceEqDiff, Nat.reduceAdd, Nat.reduceLeDiff, Nat.reduceLT, hc7, hg15, hc21]
        refine hK _ _ ?_
        clear hK K
        refine wpT_ret ⟨.inr rfl, ?_⟩
        show optK (resA _ _ _ [.tmp 2]) _
        simp only [SR, Option.map_some, Option.bind_some, ↓SP, SX, SW, TY, EN, sv_w, ↓reduceIte, reduceCtorEq, Nat.reduceEqDiff, Nat.reduceAdd, Nat.reduceLeDiff, Nat.reduceLT, hc7, hg15, hc21]
        refine Lend.eq ?_
        first
          | rw [← hx, if_pos (by omega)]
          | rw [← hx]
      · skip
        have p21 := hc21
        try simp only [decide_eq_true_eq, decide_eq_false_iff_not, beq_iff_eq, bne_iff_ne, beq_eq_false_iff_ne, bne_eq_false_iff_eq, Bool.not_eq_true', Bool.not_eq_false'] at p21
        refine wpT_skip ?_
        refine wpT_inBlock ?_
        refine wpT_region (by kernel_rfl) (fun K hK => ?_)
        simp only [↓SP, SX, SW, TY, EN, sv_w, ↓reduceIte, reduceCtorEq, Nat.reduceEqDiff, Nat.reduceAdd, Nat.reduceLeDiff, Nat.reduceLT, e3, wrap64 (x := (i : Int) + 1) (by omega) (by omega), hc7, hg15, hc21]
        refine hK _ _ ?_
        clear hK K
        rw [if_neg (by omega)] at hx
        refine wpT_keep0 ?_
        refine IH (i + 1) _ _ (by omega) ⟨⟨_, rfl⟩, by simp only [↓SP, SX, SW, TY, EN, sv_w, ↓reduceIte, reduceCtorEq, Nat.reduceEqDiff, Nat.reduceAdd, Nat.reduceLeDiff, Nat.reduceLT, e0], by simp only [↓SP, SX, SW, TY, EN, sv_w, ↓reduceIte, reduceCtorEq, Nat.reduceEqDiff, Nat.reduceAdd, Nat.reduceLeDiff, Nat.reduceLT, Int.natCast_add, Int.cast_ofNat_Int], by omega, hx⟩
    · skip
      simp only [Bool.not_true, Bool.not_false] at hg15
      have p15 := hg15
      try simp only [decide_eq_true_eq, decide_eq_false_iff_not, beq_iff_eq, bne_iff_ne, beq_eq_false_iff_ne, bne_eq_false_iff_eq, Bool.not_eq_true', Bool.not_eq_false'] at p15
      simp only [↓SP, SX, SW, TY, EN, sv_w, ↓reduceIte, reduceCtorEq, Nat.reduceEqDiff, Nat.reduceAdd, Nat.reduceLeDiff, Nat.reduceLT, e0, e3, hg, hc7, hg15]
      refine hK _ _ ?_
      clear hK K
      refine wpT_ifT (by simp only [↓SP, SX, SW, TY, EN, sv_w, ↓reduceIte, reduceCtorEq, Nat.reduceEqDiff, Nat.reduceAdd, Nat.reduceLeDiff, Nat.reduceLT, hc7, hg15]) ?_
      refine wpT_seq ?_
      refine wpT_region (by kernel_rfl) (fun K hK => ?_)
      simp only [↓SP, SX, SW, TY, EN, sv_w, ↓reduceIte, reduceCtorEq, Nat.reduceEqDiff, Nat.reduceAdd, Nat.reduceLeDiff, Nat.reduceLT, hc7, hg15]
      refine hK _ _ ?_
      clear hK K
      refine wpT_ret ⟨.inr rfl, ?_⟩
      show optK (resA _ _ _ [.tmp 2]) _
      simp only [SR, Option.map_some, Option.bind_some, ↓SP, SX, SW, TY, EN, sv_w, ↓reduceIte, reduceCtorEq, Nat.reduceEqDiff, Nat.reduceAdd, Nat.reduceLeDiff, Nat.reduceLT, hc7, hg15]
      refine Lend.eq ?_
      first
        | rw [← hx, if_pos (by omega)]
        | rw [← hx]
  · skip
    have p7 := hc7
    try simp only [decide_eq_true_eq, decide_eq_false_iff_not, beq_iff_eq, bne_iff_ne, beq_eq_false_iff_ne, bne_eq_false_iff_eq, Bool.not_eq_true', Bool.not_eq_false'] at p7
    rw [List.drop_eq_nil_of_le (by omega), posR] at hx
    refine wpT_exit rfl ?_
    refine wpT_seq ?_
    refine wpT_region (by kernel_rfl) (fun K hK => ?_)
    simp only [↓SP, SX, SW, TY, EN, sv_w, ↓reduceIte, reduceCtorEq, Nat.reduceEqDiff, Nat.reduceAdd, Nat.reduceLeDiff, Nat.reduceLT, hc7]
    refine hK _ _ ?_
    clear hK K
    refine wpT_ret ⟨.inr rfl, ?_⟩
    show optK (resA _ _ _ [.tmp 2]) _
    simp only [SR, Option.map_some, Option.bind_some, ↓SP, SX, SW, TY, EN, sv_w, ↓reduceIte, reduceCtorEq, Nat.reduceEqDiff, Nat.reduceAdd, Nat.reduceLeDiff, Nat.reduceLT, hc7]
    refine Lend.eq ?_
    first
      | rw [← hx, if_pos (by omega)]
      | rw [← hx]
theorem c54 (xs : List Int) (hl : xs.length < 4611686018427387904) : Pu Try.prog (.fn (.func 54) [] []) [.lst (xs.map I)] (I (sizesE xs)) := by
  refine pu_func Try.func54 rfl (by kernel_rfl) (by show _ ≤ 30; simp only [List.length_append, List.length_cons, List.length_nil]; decide) (by simp only [IDF, and_tt, implies_true]) (by simp only [IDF, and_tt, implies_true]) (by simp only [IDF, and_tt, implies_true]) ?_
  rw [Try.ntmps54]
  refine wpT_seq ?_
  refine wpT_region (by kernel_rfl) (fun K hK => ?_)
  simp only [↓SP, SX, SW, TY, EN, sv_w, ↓reduceIte, reduceCtorEq, Nat.reduceEqDiff, Nat.reduceAdd, Nat.reduceLeDiff, Nat.reduceLT]
  refine hK _ _ ?_
  clear hK K
  refine wpT_seq ?_
  refine wpT_seq ?_
  refine wpT_region (by kernel_rfl) (fun K hK => ?_)
  simp only [↓SP, SX, SW, TY, EN, sv_w, ↓reduceIte, reduceCtorEq, Nat.reduceEqDiff, Nat.reduceAdd, Nat.reduceLeDiff, Nat.reduceLT]
  refine guardO_split (fun hg7 => ?_) (fun hg7 => ?_)
  · skip
    have p7 := hg7
    try simp only [decide_eq_true_eq, decide_eq_false_iff_not, beq_iff_eq, bne_iff_ne, beq_eq_false_iff_ne, bne_eq_false_iff_eq, Bool.not_eq_true', Bool.not_eq_false'] at p7
    simp only [↓SP, SX, SW, TY, EN, sv_w, ↓reduceIte, reduceCtorEq, Nat.reduceEqDiff, Nat.reduceAdd, Nat.reduceLeDiff, Nat.reduceLT, hg7]
    refine hK _ _ ?_
    clear hK K
    refine wpT_if (by rfl) (fun hc11 => ?_) (fun hc11 => ?_)
    · skip
      have p11 := hc11
      try simp only [decide_eq_true_eq, decide_eq_false_iff_not, beq_iff_eq, bne_iff_ne, beq_eq_false_iff_ne, bne_eq_false_iff_eq, Bool.not_eq_true', Bool.not_eq_false'] at p11
      have hx : sizesE xs = 6 := if_pos (by omega)
      refine wpT_seq ?_
      refine wpT_region (by kernel_rfl) (fun K hK => ?_)
      simp only [↓SP, SX, SW, TY, EN, sv_w, ↓reduceIte, reduceCtorEq, Nat.reduceEqDiff, Nat.reduceAdd, Nat.reduceLeDiff, Nat.reduceLT, hg7, hc11]
      refine hK _ _ ?_
      clear hK K
      refine wpT_ret ⟨.inr rfl, ?_⟩
      show optK (resA _ _ _ [.tmp 2]) _
      simp only [SR, Option.map_some, Option.bind_some, ↓SP, SX, SW, TY, EN, sv_w, ↓reduceIte, reduceCtorEq, Nat.reduceEqDiff, Nat.reduceAdd, Nat.reduceLeDiff, Nat.reduceLT, hg7, hc11]
      refine Lend.eq ?_
      first
        | rw [← hx, if_pos (by omega)]
        | rw [← hx]
        | rw [hx]
    · skip
      have p11 := hc11
      try simp only [decide_eq_true_eq, decide_eq_false_iff_not, beq_iff_eq, bne_iff_ne, beq_eq_false_iff_ne, bne_eq_false_iff_eq, Bool.not_eq_true', Bool.not_eq_false'] at p11
      have hx : sizesE xs = szR xs := if_neg (by omega)
      refine wpT_skip ?_
      refine wpT_seq ?_
      refine wpT_seq ?_
      refine wpT_region (by kernel_rfl) (fun K hK => ?_)
      simp only [↓SP, SX, SW, TY, EN, sv_w, ↓reduceIte, reduceCtorEq, Nat.reduceEqDiff, Nat.reduceAdd, Nat.reduceLeDiff, Nat.reduceLT, hg7, hc11]
      refine hK _ _ ?_
      clear hK K
      refine wpT_block ?_
      refine wpT_loop ?_
      refine wpT_keep0 ?_
      rw [hx]
      clear hx
      refine wpT_ind (fun (i : Nat) tm' h' => (∃ m, h' = Hp.of [] m) ∧ tm' 0 = .lst (xs.map I) ∧ tm' 3 = I i ∧ i ≤ xs.length ∧ szR (xs.drop i) = szR xs) (fun i => xs.length - i) ?_ 0 ⟨⟨_, rfl⟩, rfl, rfl, Nat.zero_le _, rfl⟩
      rintro i tm' _ ⟨⟨m, rfl⟩, e0, e3, hi, hx⟩ IH
      refine wpT_inLoop ?_
      refine wpT_seq ?_
      refine wpT_seq ?_
      refine wpT_region (by kernel_rfl) (fun K hK => ?_)
      simp only [↓SP, SX, SW, TY, EN, sv_w, ↓reduceIte, reduceCtorEq, Nat.reduceEqDiff, Nat.reduceAdd, Nat.reduceLeDiff, Nat.reduceLT, e0, e3]
      refine hK _ _ ?_
      clear hK K
      refine wpT_if (by rfl) (fun hc15 => ?_) (fun hc15 => ?_)
      · skip
        have p15 := hc15
        try simp only [decide_eq_true_eq, decide_eq_false_iff_not, beq_iff_eq, bne_iff_ne, beq_eq_false_iff_ne, bne_eq_false_iff_eq, Bool.not_eq_true', Bool.not_eq_false'] at p15
        have hlt : i < xs.length := by omega
        have hg := at_map (f := I) hlt
        rw [List.drop_eq_getElem_cons hlt, szR] at hx
        refine wpT_skip ?_
        refine wpT_seq ?_
        refine wpT_block ?_
        refine wpT_seq ?_
        refine wpT_region (by kernel_rfl) (fun K hK => ?_)
        simp only [↓SP, SX, SW, TY, EN, sv_w, ↓reduceIte, reduceCtorEq, Nat.reduceEqDiff, Nat.reduceAdd, Nat.reduceLeDiff, Nat.reduceLT, e0, e3, hg, hc15]
        refine guardO_split (fun hg23 => ?_) (fun hg23 => ?_)
        · skip
          have p23 := hg23
          try simp only [decide_eq_true_eq, decide_eq_false_iff_not, beq_iff_eq, bne_iff_ne, beq_eq_false_iff_ne, bne_eq_false_iff_eq, Bool.not_eq_true', Bool.not_eq_false'] at p23
          simp only [↓SP, SX, SW, TY, EN, sv_w, ↓reduceIte, reduceCtorEq, Nat.reduceEqDiff, Nat.reduceAdd, Nat.reduceLeDiff, Nat.reduceLT, e0, e3, hg, hc15, hg23]
          refine hK _ _ ?_
          clear hK K
          refine wpT_if (by rfl) (fun hc29 => ?_) (fun hc29 => ?_)
          · skip
            have p29 := hc29
            try simp only [decide_eq_true_eq, decide_eq_false_iff_not, beq_iff_eq, bne_iff_ne, beq_eq_false_iff_ne, bne_eq_false_iff_eq, Bool.not_eq_true', Bool.not_eq_false'] at p29
            refine wpT_seq ?_
            refine wpT_region (by kernel_rfl) (fun K hK => ?_)
            simp only [↓SP, SX, SW, TY, EN, sv_w, ↓reduceIte, reduceCtorEq, Nat.reduceEqDiff, Nat.reduceAdd, Nat.reduceLeDiff, Nat.reduceLT, hc15, hg23, hc29]
            refine hK _ _ ?_
            clear hK K
            refine wpT_ret ⟨.inr rfl, ?_⟩
            show optK (resA _ _ _ [.tmp 2]) _
            simp only [SR, Option.map_some, Option.bind_some, ↓SP, SX, SW, TY, EN, sv_w, ↓reduceIte, reduceCtorEq, Nat.reduceEqDiff, Nat.reduceAdd, Nat.reduceLeDiff, Nat.reduceLT, hc15, hg23, hc29]
            refine Lend.eq ?_
            first
              | rw [← hx, if_pos (by omega)]
              | rw [← hx]
              | rw [hx]
          · skip
            have p29 := hc29
            try simp only [decide_eq_true_eq, decide_eq_false_iff_not, beq_iff_eq, bne_iff_ne, beq_eq_false_iff_ne, bne_eq_false_iff_eq, Bool.not_eq_true', Bool.not_eq_false'] at p29
            refine wpT_skip ?_
            refine wpT_inBlock ?_
            refine wpT_region (by kernel_rfl) (fun K hK => ?_)
            simp only [↓SP, SX, SW, TY, EN, sv_w, ↓reduceIte, reduceCtorEq, Nat.reduceEqDiff, Nat.reduceAdd, Nat.reduceLeDiff, Nat.reduceLT, e3, wrap64 (x := (i : Int) + 1) (by omega) (by omega), hc15, hg23, hc29]
            refine hK _ _ ?_
            clear hK K
            rw [if_neg (by omega)] at hx
            refine wpT_keep0 ?_
            refine IH (i + 1) _ _ (by omega) ⟨⟨_, rfl⟩, by simp only [↓SP, SX, SW, TY, EN, sv_w, ↓reduceIte, reduceCtorEq, Nat.reduceEqDiff, Nat.reduceAdd, Nat.reduceLeDiff, Nat.reduceLT, e0], by simp only [↓SP, SX, SW, TY, EN, sv_w, ↓reduceIte, reduceCtorEq, Nat.reduceEqDiff, Nat.reduceAdd, Nat.reduceLeDiff, Nat.reduceLT, Int.natCast_add, Int.cast_ofNat_Int], by omega, hx⟩
        · skip
          simp only [Bool.not_true, Bool.not_false] at hg23
          have p23 := hg23
          try simp only [decide_eq_true_eq, decide_eq_false_iff_not, beq_iff_eq, bne_iff_ne, beq_eq_false_iff_ne, bne_eq_false_iff_eq, Bool.not_eq_true', Bool.not_eq_false'] at p23
          simp only [↓SP, SX, SW, TY, EN, sv_w, ↓reduceIte, reduceCtorEq, Nat.reduceEqDiff, Nat.reduceAdd, Nat.reduceLeDiff, Nat.reduceLT, e0, e3, hg, hc15, hg23]
          refine hK _ _ ?_
          clear hK K
          refine wpT_ifT (by simp only [↓SP, SX, SW, TY, EN, sv_w, ↓reduceIte, reduceCtorEq, Nat.reduceEqDiff, Nat.reduceAdd, Nat.reduceLeDiff, Nat.reduceLT, hc15, hg23]) ?_
          refine wpT_seq ?_
          refine wpT_region (by kernel_rfl) (fun K hK => ?_)
          simp only [↓SP, SX, SW, TY, EN, sv_w, ↓reduceIte, reduceCtorEq, Nat.reduceEqDiff, Nat.reduceAdd, Nat.reduceLeDiff, Nat.reduceLT, hc15, hg23]
          refine hK _ _ ?_
          clear hK K
          refine wpT_ret ⟨.inr rfl, ?_⟩
          show optK (resA _ _ _ [.tmp 2]) _
          simp only [SR, Option.map_some, Option.bind_some, ↓SP, SX, SW, TY, EN, sv_w, ↓reduceIte, reduceCtorEq, Nat.reduceEqDiff, Nat.reduceAdd, Nat.reduceLeDiff, Nat.reduceLT, hc15, hg23]
          refine Lend.eq ?_
          first
            | rw [← hx, if_pos (by omega)]
            | rw [← hx]
            | rw [hx]
      · skip
        have p15 := hc15
        try simp only [decide_eq_true_eq, decide_eq_false_iff_not, beq_iff_eq, bne_iff_ne, beq_eq_false_iff_ne, bne_eq_false_iff_eq, Bool.not_eq_true', Bool.not_eq_false'] at p15
        rw [List.drop_eq_nil_of_le (by omega), szR] at hx
        refine wpT_exit rfl ?_
        refine wpT_seq ?_
        refine wpT_region (by kernel_rfl) (fun K hK => ?_)
        simp only [↓SP, SX, SW, TY, EN, sv_w, ↓reduceIte, reduceCtorEq, Nat.reduceEqDiff, Nat.reduceAdd, Nat.reduceLeDiff, Nat.reduceLT, hc15]
        refine hK _ _ ?_
        clear hK K
        refine wpT_ret ⟨.inr rfl, ?_⟩
        show optK (resA _ _ _ [.tmp 2]) _
        simp only [SR, Option.map_some, Option.bind_some, ↓SP, SX, SW, TY, EN, sv_w, ↓reduceIte, reduceCtorEq, Nat.reduceEqDiff, Nat.reduceAdd, Nat.reduceLeDiff, Nat.reduceLT, hc15]
        refine Lend.eq ?_
        first
          | rw [← hx, if_pos (by omega)]
          | rw [← hx]
          | rw [hx]
  · skip
    simp only [Bool.not_true, Bool.not_false] at hg7
    have p7 := hg7
    try simp only [decide_eq_true_eq, decide_eq_false_iff_not, beq_iff_eq, bne_iff_ne, beq_eq_false_iff_ne, bne_eq_false_iff_eq, Bool.not_eq_true', Bool.not_eq_false'] at p7
    simp only [↓SP, SX, SW, TY, EN, sv_w, ↓reduceIte, reduceCtorEq, Nat.reduceEqDiff, Nat.reduceAdd, Nat.reduceLeDiff, Nat.reduceLT, hg7]
    refine hK _ _ ?_
    clear hK K
    refine wpT_ifT (by simp only [↓SP, SX, SW, TY, EN, sv_w, ↓reduceIte, reduceCtorEq, Nat.reduceEqDiff, Nat.reduceAdd, Nat.reduceLeDiff, Nat.reduceLT, hg7]) ?_
    have hx : sizesE xs = 6 := if_pos (by omega)
    refine wpT_seq ?_
    refine wpT_region (by kernel_rfl) (fun K hK => ?_)
    simp only [↓SP, SX, SW, TY, EN, sv_w, ↓reduceIte, reduceCtorEq, Nat.reduceEqDiff, Nat.reduceAdd, Nat.reduceLeDiff, Nat.reduceLT, hg7]
    refine hK _ _ ?_
    clear hK K
    refine wpT_ret ⟨.inr rfl, ?_⟩
    show optK (resA _ _ _ [.tmp 2]) _
    simp only [SR, Option.map_some, Option.bind_some, ↓SP, SX, SW, TY, EN, sv_w, ↓reduceIte, reduceCtorEq, Nat.reduceEqDiff, Nat.reduceAdd, Nat.reduceLeDiff, Nat.reduceLT, hg7]
    refine Lend.eq ?_
    first
      | rw [← hx, if_pos (by omega)]
      | rw [← hx]
      | rw [hx]
theorem c77 (sz : List Int) (w : Wr) (hz : ∀ x ∈ sz, 1 ≤ x ∧ x ≤ 4096) : Pu Try.prog (.fn (.func 77) [] []) [.lst (sz.map I), w.av] (I (fitsE sz w)) := by
  refine pu_func Try.func77 rfl (by kernel_rfl) (by show _ ≤ 46; simp only [List.length_append, List.length_cons, List.length_nil]; decide) (by simp only [IDF]) (by simp only [IDF, and_tt, implies_true]) (by simp only [IDF, wr_idf, and_tt, implies_true]) ?_
  rw [Try.ntmps77]
  refine wpT_seq ?_
  refine wpT_region (by kernel_rfl) (fun K hK => ?_)
  simp only [↓SP, SX, SW, TY, EN, sv_w, ↓reduceIte, reduceCtorEq, Nat.reduceEqDiff, Nat.reduceAdd, Nat.reduceLeDiff, Nat.reduceLT, Wr.av]
  refine hK _ _ ?_
  clear hK K
  refine wpT_seq ?_
  refine wpT_seq ?_
  refine wpT_region (by kernel_rfl) (fun K hK => ?_)
  simp only [↓SP, SX, SW, TY, EN, sv_w, ↓reduceIte, reduceCtorEq, Nat.reduceEqDiff, Nat.reduceAdd, Nat.reduceLeDiff, Nat.reduceLT, Wr.av]
  refine guardO_split (fun hg8 => ?_) (fun hg8 => ?_)
  · skip
    have p8 := hg8
    try simp only [decide_eq_true_eq, decide_eq_false_iff_not, beq_iff_eq, bne_iff_ne, beq_eq_false_iff_ne, bne_eq_false_iff_eq, Bool.not_eq_true', Bool.not_eq_false'] at p8
    simp only [↓SP, SX, SW, TY, EN, sv_w, ↓reduceIte, reduceCtorEq, Nat.reduceEqDiff, Nat.reduceAdd, Nat.reduceLeDiff, Nat.reduceLT, Wr.av, hg8]
    refine hK _ _ ?_
    clear hK K
    refine wpT_if (by rfl) (fun hc14 => ?_) (fun hc14 => ?_)
    · skip
      have p14 := hc14
      try simp only [decide_eq_true_eq, decide_eq_false_iff_not, beq_iff_eq, bne_iff_ne, beq_eq_false_iff_ne, bne_eq_false_iff_eq, Bool.not_eq_true', Bool.not_eq_false'] at p14
      have hx : fitsE sz w = 7 := if_pos (by omega)
      refine wpT_seq ?_
      refine wpT_region (by kernel_rfl) (fun K hK => ?_)
      simp only [↓SP, SX, SW, TY, EN, sv_w, ↓reduceIte, reduceCtorEq, Nat.reduceEqDiff, Nat.reduceAdd, Nat.reduceLeDiff, Nat.reduceLT, Wr.av, hg8, hc14]
      refine hK _ _ ?_
      clear hK K
      refine wpT_ret ⟨.inr rfl, ?_⟩
      show optK (resA _ _ _ [.tmp 4]) _
      simp only [SR, Option.map_some, Option.bind_some, ↓SP, SX, SW, TY, EN, sv_w, ↓reduceIte, reduceCtorEq, Nat.reduceEqDiff, Nat.reduceAdd, Nat.reduceLeDiff, Nat.reduceLT, Wr.av, hg8, hc14]
      refine Lend.eq ?_
      first
        | rw [hx]
        | rw [hx0, if_pos (by omega)]
        | rw [hx0, if_neg (by omega), if_pos (by omega)]
        | rw [hx0, if_neg (by omega), if_neg (by omega)]
    · skip
      have p14 := hc14
      try simp only [decide_eq_true_eq, decide_eq_false_iff_not, beq_iff_eq, bne_iff_ne, beq_eq_false_iff_ne, bne_eq_false_iff_eq, Bool.not_eq_true', Bool.not_eq_false'] at p14
      obtain ⟨n, hv⟩ := Int.eq_ofNat_of_zero_le (a := w.vol) (by omega)
      have hlt : n < sz.length := by omega
      have hg := at_map (f := I) hlt
      have hzn := hz _ (List.getElem_mem hlt)
      have hd : sz.getD w.vol.toNat 0 = sz[n] := by rw [hv]; simp [List.getD_eq_getElem?_getD, hlt]
      have hx0 : fitsE sz w = if w.data.length = 0 then 1 else if w.start < 0 ∨ w.start ≥ sz[n] ∨ w.data.length > sz[n] - w.start then 2 else 0 := by
        rw [fitsE, if_neg (by omega), hd]
      refine wpT_skip ?_
      refine wpT_seq ?_
      refine wpT_seq ?_
      refine wpT_region (by kernel_rfl) (fun K hK => ?_)
      simp only [↓SP, SX, SW, TY, EN, sv_w, ↓reduceIte, reduceCtorEq, Nat.reduceEqDiff, Nat.reduceAdd, Nat.reduceLeDiff, Nat.reduceLT, Wr.av, hg8, hc14]
      refine hK _ _ ?_
      clear hK K
      refine wpT_if (by rfl) (fun hc18 => ?_) (fun hc18 => ?_)
      · skip
        have p18 := hc18
        try simp only [decide_eq_true_eq, decide_eq_false_iff_not, beq_iff_eq, bne_iff_ne, beq_eq_false_iff_ne, bne_eq_false_iff_eq, Bool.not_eq_true', Bool.not_eq_false'] at p18
        refine wpT_seq ?_
        refine wpT_region (by kernel_rfl) (fun K hK => ?_)
        simp only [↓SP, SX, SW, TY, EN, sv_w, ↓reduceIte, reduceCtorEq, Nat.reduceEqDiff, Nat.reduceAdd, Nat.reduceLeDiff, Nat.reduceLT, Wr.av, hg8, hc14, hc18]
        refine hK _ _ ?_
        clear hK K
        refine wpT_ret ⟨.inr rfl, ?_⟩
        show optK (resA _ _ _ [.tmp 4]) _
        simp only [SR, Option.map_some, Option.bind_some, ↓SP, SX, SW, TY, EN, sv_w, ↓reduceIte, reduceCtorEq, Nat.reduceEqDiff, Nat.reduceAdd, Nat.reduceLeDiff, Nat.reduceLT, Wr.av, hg8, hc14, hc18]
        refine Lend.eq ?_
        first
          | rw [hx]
          | rw [hx0, if_pos (by omega)]
          | rw [hx0, if_neg (by omega), if_pos (by omega)]
          | rw [hx0, if_neg (by omega), if_neg (by omega)]
      · skip
        have p18 := hc18
        try simp only [decide_eq_true_eq, decide_eq_false_iff_not, beq_iff_eq, bne_iff_ne, beq_eq_false_iff_ne, bne_eq_false_iff_eq, Bool.not_eq_true', Bool.not_eq_false'] at p18
        refine wpT_skip ?_
        refine wpT_seq ?_
        refine wpT_seq ?_
        refine wpT_drawn [] mixed (by kernel_rfl) (m := 27) rfl (fun K hK => ?_)
        simp only [↓SP, SX, SW, TY, EN, sv_w, ↓reduceIte, reduceCtorEq, Nat.reduceEqDiff, Nat.reduceAdd, Nat.reduceLeDiff, Nat.reduceLT, Wr.av, hv, hg, hg8, hc14, hc18]
        refine guardD_split (fun hg22 => ?_) (fun hg22 => ?_)
        · skip
          have p22 := hg22
          try simp only [decide_eq_true_eq, decide_eq_false_iff_not, beq_iff_eq, bne_iff_ne, beq_eq_false_iff_ne, bne_eq_false_iff_eq, Bool.not_eq_true', Bool.not_eq_false'] at p22
          simp only [↓SP, SX, SW, TY, EN, sv_w, ↓reduceIte, reduceCtorEq, Nat.reduceEqDiff, Nat.reduceAdd, Nat.reduceLeDiff, Nat.reduceLT, Wr.av, hv, hg, hg8, hc14, hc18, hg22]
          refine guardD_split (fun hg32 => ?_) (fun hg32 => ?_)
          · skip
            have p32 := hg32
            try simp only [decide_eq_true_eq, decide_eq_false_iff_not, beq_iff_eq, bne_iff_ne, beq_eq_false_iff_ne, bne_eq_false_iff_eq, Bool.not_eq_true', Bool.not_eq_false'] at p32
            have hw2 : IntKind.i64.wrap (sz[n] - w.start) = sz[n] - w.start := wrap64 (by omega) (by omega)
            simp only [↓SP, SX, SW, TY, EN, sv_w, ↓reduceIte, reduceCtorEq, Nat.reduceEqDiff, Nat.reduceAdd, Nat.reduceLeDiff, Nat.reduceLT, Wr.av, hv, hg, hg8, hc14, hc18, hg22, hw2, hg32]
            refine hK _ _ ?_
            clear hK K
            refine wpT_if (by rfl) (fun hc45 => ?_) (fun hc45 => ?_)
            · skip
              have p45 := hc45
              try simp only [decide_eq_true_eq, decide_eq_false_iff_not, beq_iff_eq, bne_iff_ne, beq_eq_false_iff_ne, bne_eq_false_iff_eq, Bool.not_eq_true', Bool.not_eq_false'] at p45
              refine wpT_seq ?_
              refine wpT_region (by kernel_rfl) (fun K hK => ?_)
              simp only [↓SP, SX, SW, TY, EN, sv_w, ↓reduceIte, reduceCtorEq, Nat.reduceEqDiff, Nat.reduceAdd, Nat.reduceLeDiff, Nat.reduceLT, Wr.av, hg8, hc14, hc18, hg22, hw2, hg32, hc45]
              refine hK _ _ ?_
              clear hK K
              refine wpT_ret ⟨.inr rfl, ?_⟩
              show optK (resA _ _ _ [.tmp 4]) _
              simp only [SR, Option.map_some, Option.bind_some, ↓SP, SX, SW, TY, EN, sv_w, ↓reduceIte, reduceCtorEq, Nat.reduceEqDiff, Nat.reduceAdd, Nat.reduceLeDiff, Nat.reduceLT, Wr.av, hg8, hc14, hc18, hg22, hw2, hg32, hc45]
              refine Lend.eq ?_
              first
                | rw [hx]
                | rw [hx0, if_pos (by omega)]
                | rw [hx0, if_neg (by omega), if_pos (by omega)]
                | rw [hx0, if_neg (by omega), if_neg (by omega)]
            · skip
              have p45 := hc45
              try simp only [decide_eq_true_eq, decide_eq_false_iff_not, beq_iff_eq, bne_iff_ne, beq_eq_false_iff_ne, bne_eq_false_iff_eq, Bool.not_eq_true', Bool.not_eq_false'] at p45
              refine wpT_skip ?_
              refine wpT_seq ?_
              refine wpT_region (by kernel_rfl) (fun K hK => ?_)
              simp only [↓SP, SX, SW, TY, EN, sv_w, ↓reduceIte, reduceCtorEq, Nat.reduceEqDiff, Nat.reduceAdd, Nat.reduceLeDiff, Nat.reduceLT, Wr.av, hg8, hc14, hc18, hg22, hw2, hg32, hc45]
              refine hK _ _ ?_
              clear hK K
              refine wpT_ret ⟨.inr rfl, ?_⟩
              show optK (resA _ _ _ [.tmp 4]) _
              simp only [SR, Option.map_some, Option.bind_some, ↓SP, SX, SW, TY, EN, sv_w, ↓reduceIte, reduceCtorEq, Nat.reduceEqDiff, Nat.reduceAdd, Nat.reduceLeDiff, Nat.reduceLT, Wr.av, hg8, hc14, hc18, hg22, hw2, hg32, hc45]
              refine Lend.eq ?_
              first
                | rw [hx]
                | rw [hx0, if_pos (by omega)]
                | rw [hx0, if_neg (by omega), if_pos (by omega)]
                | rw [hx0, if_neg (by omega), if_neg (by omega)]
          · skip
            simp only [Bool.not_true, Bool.not_false] at hg32
            have p32 := hg32
            try simp only [decide_eq_true_eq, decide_eq_false_iff_not, beq_iff_eq, bne_iff_ne, beq_eq_false_iff_ne, bne_eq_false_iff_eq, Bool.not_eq_true', Bool.not_eq_false'] at p32
            simp only [↓SP, SX, SW, TY, EN, sv_w, ↓reduceIte, reduceCtorEq, Nat.reduceEqDiff, Nat.reduceAdd, Nat.reduceLeDiff, Nat.reduceLT, Wr.av, hv, hg, hg8, hc14, hc18, hg22, hg32]
            refine hK _ _ ?_
            clear hK K
            refine wpT_ifT (by simp only [↓SP, SX, SW, TY, EN, sv_w, ↓reduceIte, reduceCtorEq, Nat.reduceEqDiff, Nat.reduceAdd, Nat.reduceLeDiff, Nat.reduceLT, Wr.av, hg8, hc14, hc18, hg22, hg32]) ?_
            refine wpT_seq ?_
            refine wpT_region (by kernel_rfl) (fun K hK => ?_)
            simp only [↓SP, SX, SW, TY, EN, sv_w, ↓reduceIte, reduceCtorEq, Nat.reduceEqDiff, Nat.reduceAdd, Nat.reduceLeDiff, Nat.reduceLT, Wr.av, hg8, hc14, hc18, hg22, hg32]
            refine hK _ _ ?_
            clear hK K
            refine wpT_ret ⟨.inr rfl, ?_⟩
            show optK (resA _ _ _ [.tmp 4]) _
            simp only [SR, Option.map_some, Option.bind_some, ↓SP, SX, SW, TY, EN, sv_w, ↓reduceIte, reduceCtorEq, Nat.reduceEqDiff, Nat.reduceAdd, Nat.reduceLeDiff, Nat.reduceLT, Wr.av, hg8, hc14, hc18, hg22, hg32]
            refine Lend.eq ?_
            first
              | rw [hx]
              | rw [hx0, if_pos (by omega)]
              | rw [hx0, if_neg (by omega), if_pos (by omega)]
              | rw [hx0, if_neg (by omega), if_neg (by omega)]
        · skip
          simp only [Bool.not_true, Bool.not_false] at hg22
          have p22 := hg22
          try simp only [decide_eq_true_eq, decide_eq_false_iff_not, beq_iff_eq, bne_iff_ne, beq_eq_false_iff_ne, bne_eq_false_iff_eq, Bool.not_eq_true', Bool.not_eq_false'] at p22
          simp only [↓SP, SX, SW, TY, EN, sv_w, ↓reduceIte, reduceCtorEq, Nat.reduceEqDiff, Nat.reduceAdd, Nat.reduceLeDiff, Nat.reduceLT, Wr.av, hv, hg, hg8, hc14, hc18, hg22]
          refine hK _ _ ?_
          clear hK K
          refine wpT_ifT (by simp only [↓SP, SX, SW, TY, EN, sv_w, ↓reduceIte, reduceCtorEq, Nat.reduceEqDiff, Nat.reduceAdd, Nat.reduceLeDiff, Nat.reduceLT, Wr.av, hg8, hc14, hc18, hg22]) ?_
          refine wpT_seq ?_
          refine wpT_region (by kernel_rfl) (fun K hK => ?_)
          simp only [↓SP, SX, SW, TY, EN, sv_w, ↓reduceIte, reduceCtorEq, Nat.reduceEqDiff, Nat.reduceAdd, Nat.reduceLeDiff, Nat.reduceLT, Wr.av, hg8, hc14, hc18, hg22]
          refine hK _ _ ?_
          clear hK K
          refine wpT_ret ⟨.inr rfl, ?_⟩
          show optK (resA _ _ _ [.tmp 4]) _
          simp only [SR, Option.map_some, Option.bind_some, ↓SP, SX, SW, TY, EN, sv_w, ↓reduceIte, reduceCtorEq, Nat.reduceEqDiff, Nat.reduceAdd, Nat.reduceLeDiff, Nat.reduceLT, Wr.av, hg8, hc14, hc18, hg22]
          refine Lend.eq ?_
          first
            | rw [hx]
            | rw [hx0, if_pos (by omega)]
            | rw [hx0, if_neg (by omega), if_pos (by omega)]
            | rw [hx0, if_neg (by omega), if_neg (by omega)]
  · skip
    simp only [Bool.not_true, Bool.not_false] at hg8
    have p8 := hg8
    try simp only [decide_eq_true_eq, decide_eq_false_iff_not, beq_iff_eq, bne_iff_ne, beq_eq_false_iff_ne, bne_eq_false_iff_eq, Bool.not_eq_true', Bool.not_eq_false'] at p8
    simp only [↓SP, SX, SW, TY, EN, sv_w, ↓reduceIte, reduceCtorEq, Nat.reduceEqDiff, Nat.reduceAdd, Nat.reduceLeDiff, Nat.reduceLT, Wr.av, hg8]
    refine hK _ _ ?_
    clear hK K
    refine wpT_ifT (by simp only [↓SP, SX, SW, TY, EN, sv_w, ↓reduceIte, reduceCtorEq, Nat.reduceEqDiff, Nat.reduceAdd, Nat.reduceLeDiff, Nat.reduceLT, Wr.av, hg8]) ?_
    have hx : fitsE sz w = 7 := if_pos (by omega)
    refine wpT_seq ?_
    refine wpT_region (by kernel_rfl) (fun K hK => ?_)
    simp only [↓SP, SX, SW, TY, EN, sv_w, ↓reduceIte, reduceCtorEq, Nat.reduceEqDiff, Nat.reduceAdd, Nat.reduceLeDiff, Nat.reduceLT, Wr.av, hg8]
    refine hK _ _ ?_
    clear hK K
    refine wpT_ret ⟨.inr rfl, ?_⟩
    show optK (resA _ _ _ [.tmp 4]) _
    simp only [SR, Option.map_some, Option.bind_some, ↓SP, SX, SW, TY, EN, sv_w, ↓reduceIte, reduceCtorEq, Nat.reduceEqDiff, Nat.reduceAdd, Nat.reduceLeDiff, Nat.reduceLT, Wr.av, hg8]
    refine Lend.eq ?_
    first
      | rw [hx]
      | rw [hx0, if_pos (by omega)]
      | rw [hx0, if_neg (by omega), if_pos (by omega)]
      | rw [hx0, if_neg (by omega), if_neg (by omega)]
end Go.Proofs.Ytlmjpgmaefokdaa
end

section
set_option linter.unusedSimpArgs false
set_option linter.unusedVariables false
namespace Go.Proofs.Ytlmjpgmaefokdaa
open Go.Proofs
set_option maxRecDepth 10000
def badW (x w : Wr) : Bool := decide (w.vol < x.vol ∨ (w.vol = x.vol ∧ w.start < x.start + x.data.length + 1))
def badO (p : Option Wr) (w : Wr) : Bool := match p with
  | none => false
  | some x => badW x w
def wsE (sz : List Int) : Option Wr → List Wr → Int
  | _, [] => 0
  | p, w :: ws => if fitsE sz w ≠ 0 then fitsE sz w else if badO p w = true then 3 else wsE sz (some w) ws
def wrsE (ws : List Wr) (sz : List Int) : Int := if sizesE sz ≠ 0 then sizesE sz else wsE sz none ws
def prevW (xs : List Wr) (i : Nat) : Option Wr := if i = 0 then none else xs[i - 1]?
theorem prevW_succ {xs : List Wr} {i : Nat} (h : i < xs.length) : prevW xs (i + 1) = some xs[i] := by simp [prevW, h]
theorem fits_facts {sz : List Int} {w : Wr} (hz : ∀ x ∈ sz, 1 ≤ x ∧ x ≤ 4096) (h : fitsE sz w = 0) : 0 ≤ w.vol ∧ w.vol < sz.length ∧ 0 ≤ w.start ∧ w.start + w.data.length ≤ 4096 ∧ 1 ≤ w.data.length := by
  unfold fitsE at h
  split at h
  · simp at h
  · split at h
    · simp at h
    · split at h
      · simp at h
      · rename_i h1 h2 h3
        have hlt : w.vol.toNat < sz.length := by omega
        have := hz _ (List.getElem_mem hlt)
        rw [List.getD_eq_getElem?_getD, List.getElem?_eq_getElem hlt] at h3
        simp only [Option.getD_some] at h3
        omega
theorem c56 (xs : List Wr) (sz : List Int) (hl : xs.length < 4611686018427387904) (hs : sz.length < 4611686018427387904) : Pu Try.prog (.fn (.func 56) [] []) [.lst (xs.map Wr.av), .lst (sz.map I)] (I (wrsE xs sz)) := by
  refine pu_func Try.func56 rfl (by kernel_rfl) (by show _ ≤ 69; simp only [List.length_append, List.length_cons, List.length_nil]; decide) (by simp only [IDF]) (by simp only [IDF, and_tt, implies_true]) (by simp only [IDF, wr_idf, and_tt, implies_true]) ?_
  rw [Try.ntmps56]
  refine wpT_seq ?_
  refine wpT_region (by kernel_rfl) (fun K hK => ?_)
  simp only [↓SP, SX, SW, TY, EN, sv_w, ↓reduceIte, reduceCtorEq, Nat.reduceEqDiff, Nat.reduceAdd, Nat.reduceLeDiff, Nat.reduceLT, wr_cs]
  refine hK _ _ ?_
  clear hK K
  refine wpT_seq ?_
  refine wpT_seq ?_
  refine wpT_region (by kernel_rfl) (fun K hK => ?_)
  simp only [↓SP, SX, SW, TY, EN, sv_w, ↓reduceIte, reduceCtorEq, Nat.reduceEqDiff, Nat.reduceAdd, Nat.reduceLeDiff, Nat.reduceLT, wr_cs]
  refine Pu.call (c54 _ hs) ?_
  simp only [↓SP, SX, SW, TY, EN, sv_w, ↓reduceIte, reduceCtorEq, Nat.reduceEqDiff, Nat.reduceAdd, Nat.reduceLeDiff, Nat.reduceLT, wr_cs]
  refine hK _ _ ?_
  clear hK K
  refine wpT_seq ?_
  refine wpT_region (by kernel_rfl) (fun K hK => ?_)
  simp only [↓SP, SX, SW, TY, EN, sv_w, ↓reduceIte, reduceCtorEq, Nat.reduceEqDiff, Nat.reduceAdd, Nat.reduceLeDiff, Nat.reduceLT, wr_cs]
  refine hK _ _ ?_
  clear hK K
  refine wpT_if (by rfl) (fun hc12 => ?_) (fun hc12 => ?_)
  · skip
    have p12 := hc12
    try simp only [decide_eq_true_eq, decide_eq_false_iff_not, beq_iff_eq, bne_iff_ne, beq_eq_false_iff_ne, bne_eq_false_iff_eq, Bool.not_eq_true', Bool.not_eq_false'] at p12
    have hx : wrsE xs sz = sizesE sz := if_pos p12
    refine wpT_seq ?_
    refine wpT_region (by kernel_rfl) (fun K hK => ?_)
    simp only [↓SP, SX, SW, TY, EN, sv_w, ↓reduceIte, reduceCtorEq, Nat.reduceEqDiff, Nat.reduceAdd, Nat.reduceLeDiff, Nat.reduceLT, wr_cs, hc12]
    refine hK _ _ ?_
    clear hK K
    refine wpT_ret ⟨.inr rfl, ?_⟩
    show optK (resA _ _ _ [.tmp 4]) _
    simp only [SR, Option.map_some, Option.bind_some, ↓SP, SX, SW, TY, EN, sv_w, ↓reduceIte, reduceCtorEq, Nat.reduceEqDiff, Nat.reduceAdd, Nat.reduceLeDiff, Nat.reduceLT, wr_cs, hc12]
    refine Lend.eq ?_
    first
      | rw [hx]
      | rw [← hx, if_pos hb]
      | rw [← hx]
  · skip
    have p12 := hc12
    try simp only [decide_eq_true_eq, decide_eq_false_iff_not, beq_iff_eq, bne_iff_ne, beq_eq_false_iff_ne, bne_eq_false_iff_eq, Bool.not_eq_true', Bool.not_eq_false'] at p12
    have hx : wrsE xs sz = wsE sz none xs := if_neg (by omega)
    have hz := sizesE_le p12
    refine wpT_skip ?_
    refine wpT_seq ?_
    refine wpT_seq ?_
    refine wpT_region (by kernel_rfl) (fun K hK => ?_)
    simp only [↓SP, SX, SW, TY, EN, sv_w, ↓reduceIte, reduceCtorEq, Nat.reduceEqDiff, Nat.reduceAdd, Nat.reduceLeDiff, Nat.reduceLT, wr_cs, hc12]
    refine hK _ _ ?_
    clear hK K
    refine wpT_block ?_
    refine wpT_loop ?_
    refine wpT_keep0 ?_
    rw [hx]
    clear hx
    refine wpT_ind (fun (i : Nat) tm' h' => (∃ m, h' = Hp.of [] m) ∧ tm' 0 = .lst (xs.map Wr.av) ∧ tm' 1 = .lst (sz.map I) ∧ tm' 6 = I i ∧ i ≤ xs.length ∧ wsE sz (prevW xs i) (xs.drop i) = wsE sz none xs ∧ ∀ w ∈ xs.take i, fitsE sz w = 0) (fun i => xs.length - i) ?_ 0 ⟨⟨_, rfl⟩, rfl, rfl, rfl, Nat.zero_le _, rfl, by simp⟩
    rintro i tm' _ ⟨⟨m, rfl⟩, e0, e1, e6, hi, hx, hf⟩ IH
    refine wpT_inLoop ?_
    refine wpT_seq ?_
    refine wpT_seq ?_
    refine wpT_region (by kernel_rfl) (fun K hK => ?_)
    simp only [↓SP, SX, SW, TY, EN, sv_w, ↓reduceIte, reduceCtorEq, Nat.reduceEqDiff, Nat.reduceAdd, Nat.reduceLeDiff, Nat.reduceLT, wr_cs, e0, e6]
    refine hK _ _ ?_
    clear hK K
    refine wpT_if (by rfl) (fun hc17 => ?_) (fun hc17 => ?_)
    · skip
      have p17 := hc17
      try simp only [decide_eq_true_eq, decide_eq_false_iff_not, beq_iff_eq, bne_iff_ne, beq_eq_false_iff_ne, bne_eq_false_iff_eq, Bool.not_eq_true', Bool.not_eq_false'] at p17
      have hlt : i < xs.length := by omega
      have hg := at_map (f := Wr.av) hlt
      rw [List.drop_eq_getElem_cons hlt, wsE] at hx
      refine wpT_skip ?_
      refine wpT_seq ?_
      refine wpT_block ?_
      refine wpT_seq ?_
      refine wpT_seq ?_
      refine wpT_region (by kernel_rfl) (fun K hK => ?_)
      simp only [↓SP, SX, SW, TY, EN, sv_w, ↓reduceIte, reduceCtorEq, Nat.reduceEqDiff, Nat.reduceAdd, Nat.reduceLeDiff, Nat.reduceLT, wr_cs, e0, e1, e6, hg, hc17]
      refine Pu.call (c77 _ _ hz) ?_
      simp only [↓SP, SX, SW, TY, EN, sv_w, ↓reduceIte, reduceCtorEq, Nat.reduceEqDiff, Nat.reduceAdd, Nat.reduceLeDiff, Nat.reduceLT, wr_cs, e0, e1, e6, hg, hc17]
      refine hK _ _ ?_
      clear hK K
      refine wpT_seq ?_
      refine wpT_region (by kernel_rfl) (fun K hK => ?_)
      simp only [↓SP, SX, SW, TY, EN, sv_w, ↓reduceIte, reduceCtorEq, Nat.reduceEqDiff, Nat.reduceAdd, Nat.reduceLeDiff, Nat.reduceLT, wr_cs, hc17]
      refine hK _ _ ?_
      clear hK K
      refine wpT_if (by rfl) (fun hc27 => ?_) (fun hc27 => ?_)
      · skip
        have p27 := hc27
        try simp only [decide_eq_true_eq, decide_eq_false_iff_not, beq_iff_eq, bne_iff_ne, beq_eq_false_iff_ne, bne_eq_false_iff_eq, Bool.not_eq_true', Bool.not_eq_false'] at p27
        rw [if_pos p27] at hx
        refine wpT_seq ?_
        refine wpT_region (by kernel_rfl) (fun K hK => ?_)
        simp only [↓SP, SX, SW, TY, EN, sv_w, ↓reduceIte, reduceCtorEq, Nat.reduceEqDiff, Nat.reduceAdd, Nat.reduceLeDiff, Nat.reduceLT, wr_cs, hc17, hc27]
        refine hK _ _ ?_
        clear hK K
        refine wpT_ret ⟨.inr rfl, ?_⟩
        show optK (resA _ _ _ [.tmp 4]) _
        simp only [SR, Option.map_some, Option.bind_some, ↓SP, SX, SW, TY, EN, sv_w, ↓reduceIte, reduceCtorEq, Nat.reduceEqDiff, Nat.reduceAdd, Nat.reduceLeDiff, Nat.reduceLT, wr_cs, hc17, hc27]
        refine Lend.eq ?_
        first
          | rw [hx]
          | rw [← hx, if_pos hb]
          | rw [← hx]
      · skip
        have p27 := hc27
        try simp only [decide_eq_true_eq, decide_eq_false_iff_not, beq_iff_eq, bne_iff_ne, beq_eq_false_iff_ne, bne_eq_false_iff_eq, Bool.not_eq_true', Bool.not_eq_false'] at p27
        rw [if_neg (by omega)] at hx
        have hf' : ∀ w ∈ xs.take (i + 1), fitsE sz w = 0 := by
          intro w hw
          rw [List.take_add_one, List.getElem?_eq_getElem hlt] at hw
          rcases List.mem_append.1 hw with h | h
          · exact hf w h
          · simp at h; subst h; exact p27
        have hw := fits_facts hz p27
        refine wpT_skip ?_
        refine wpT_seq ?_
        refine wpT_seq ?_
        refine wpT_region (by kernel_rfl) (fun K hK => ?_)
        simp only [↓SP, SX, SW, TY, EN, sv_w, ↓reduceIte, reduceCtorEq, Nat.reduceEqDiff, Nat.reduceAdd, Nat.reduceLeDiff, Nat.reduceLT, wr_cs, e6, hc17, hc27]
        refine hK _ _ ?_
        clear hK K
        refine wpT_if (by rfl) (fun hc30 => ?_) (fun hc30 => ?_)
        · skip
          have p30 := hc30
          try simp only [decide_eq_true_eq, decide_eq_false_iff_not, beq_iff_eq, bne_iff_ne, beq_eq_false_iff_ne, bne_eq_false_iff_eq, Bool.not_eq_true', Bool.not_eq_false'] at p30
          have hi0 : i = 0 := by omega
          have hx' : wsE sz (prevW xs (i + 1)) (xs.drop (i + 1)) = wsE sz none xs := by
            have hp : prevW xs i = none := if_pos hi0
            rw [hp] at hx
            rw [prevW_succ hlt]
            simpa [badO] using hx
          refine wpT_exit rfl ?_
          refine wpT_region (by kernel_rfl) (fun K hK => ?_)
          simp only [↓SP, SX, SW, TY, EN, sv_w, ↓reduceIte, reduceCtorEq, Nat.reduceEqDiff, Nat.reduceAdd, Nat.reduceLeDiff, Nat.reduceLT, wr_cs, e6, wrap64 (x := (i : Int) + 1) (by omega) (by omega), hc17, hc27, hc30]
          refine hK _ _ ?_
          clear hK K
          refine wpT_keep0 ?_
          refine IH (i + 1) _ _ (by omega) ⟨⟨_, rfl⟩, by simp only [↓SP, SX, SW, TY, EN, sv_w, ↓reduceIte, reduceCtorEq, Nat.reduceEqDiff, Nat.reduceAdd, Nat.reduceLeDiff, Nat.reduceLT, wr_cs, e0], by simp only [↓SP, SX, SW, TY, EN, sv_w, ↓reduceIte, reduceCtorEq, Nat.reduceEqDiff, Nat.reduceAdd, Nat.reduceLeDiff, Nat.reduceLT, wr_cs, e1], by simp only [↓SP, SX, SW, TY, EN, sv_w, ↓reduceIte, reduceCtorEq, Nat.reduceEqDiff, Nat.reduceAdd, Nat.reduceLeDiff, Nat.reduceLT, wr_cs, Int.natCast_add, Int.cast_ofNat_Int], by omega, hx', hf'⟩
        · skip
          have p30 := hc30
          try simp only [decide_eq_true_eq, decide_eq_false_iff_not, beq_iff_eq, bne_iff_ne, beq_eq_false_iff_ne, bne_eq_false_iff_eq, Bool.not_eq_true', Bool.not_eq_false'] at p30
          have hi1 : IntKind.i64.wrap ((i : Int) - 1) = ((i - 1 : Nat) : Int) := by rw [wrap64 (by omega) (by omega)]; omega
          have hlt1 : i - 1 < xs.length := by omega
          have hg1 := at_map (f := Wr.av) hlt1
          have hwp := fits_facts hz (hf xs[i - 1] (List.mem_take_iff_getElem.2 ⟨i - 1, by omega, rfl⟩))
          have hpr : prevW xs i = some xs[i - 1] := by rw [prevW, if_neg (by omega)]; simp [hlt1]
          rw [hpr] at hx
          refine wpT_skip ?_
          refine wpT_seq ?_
          refine wpT_region (by kernel_rfl) (fun K hK => ?_)
          simp only [↓SP, SX, SW, TY, EN, sv_w, ↓reduceIte, reduceCtorEq, Nat.reduceEqDiff, Nat.reduceAdd, Nat.reduceLeDiff, Nat.reduceLT, wr_cs, e0, e6, hi1, hg1, hc17, hc27, hc30]
          refine hK _ _ ?_
          clear hK K
          refine wpT_seq ?_
          refine wpT_drawn [] mixed (by kernel_rfl) (m := 33) rfl (fun K hK => ?_)
          simp only [↓SP, SX, SW, TY, EN, sv_w, ↓reduceIte, reduceCtorEq, Nat.reduceEqDiff, Nat.reduceAdd, Nat.reduceLeDiff, Nat.reduceLT, wr_cs, e0, e6, hg, Wr.av, wrap64 (x := xs[i - 1].start + (xs[i - 1].data.length : Int)) (by omega) (by omega), wrap64 (x := xs[i - 1].start + (xs[i - 1].data.length : Int) + 1) (by omega) (by omega), hc17, hc27, hc30]
          refine guardD_split (fun hg44 => ?_) (fun hg44 => ?_)
          · skip
            have p44 := hg44
            try simp only [decide_eq_true_eq, decide_eq_false_iff_not, beq_iff_eq, bne_iff_ne, beq_eq_false_iff_ne, bne_eq_false_iff_eq, Bool.not_eq_true', Bool.not_eq_false'] at p44
            simp only [↓SP, SX, SW, TY, EN, sv_w, ↓reduceIte, reduceCtorEq, Nat.reduceEqDiff, Nat.reduceAdd, Nat.reduceLeDiff, Nat.reduceLT, wr_cs, e0, e6, hg, Wr.av, wrap64 (x := xs[i - 1].start + (xs[i - 1].data.length : Int)) (by omega) (by omega), wrap64 (x := xs[i - 1].start + (xs[i - 1].data.length : Int) + 1) (by omega) (by omega), hc17, hc27, hc30, hg44]
            refine guardD_split (fun hg53 => ?_) (fun hg53 => ?_)
            · skip
              have p53 := hg53
              try simp only [decide_eq_true_eq, decide_eq_false_iff_not, beq_iff_eq, bne_iff_ne, beq_eq_false_iff_ne, bne_eq_false_iff_eq, Bool.not_eq_true', Bool.not_eq_false'] at p53
              simp only [↓SP, SX, SW, TY, EN, sv_w, ↓reduceIte, reduceCtorEq, Nat.reduceEqDiff, Nat.reduceAdd, Nat.reduceLeDiff, Nat.reduceLT, wr_cs, e0, e6, hg, Wr.av, wrap64 (x := xs[i - 1].start + (xs[i - 1].data.length : Int)) (by omega) (by omega), wrap64 (x := xs[i - 1].start + (xs[i - 1].data.length : Int) + 1) (by omega) (by omega), hc17, hc27, hc30, hg44, hg53]
              refine hK _ _ ?_
              clear hK K
              refine wpT_if (by rfl) (fun hc68 => ?_) (fun hc68 => ?_)
              · skip
                have p68 := hc68
                try simp only [decide_eq_true_eq, decide_eq_false_iff_not, beq_iff_eq, bne_iff_ne, beq_eq_false_iff_ne, bne_eq_false_iff_eq, Bool.not_eq_true', Bool.not_eq_false'] at p68
                have hb : badO (some xs[i - 1]) xs[i] = true := decide_eq_true (by omega)
                refine wpT_seq ?_
                refine wpT_region (by kernel_rfl) (fun K hK => ?_)
                simp only [↓SP, SX, SW, TY, EN, sv_w, ↓reduceIte, reduceCtorEq, Nat.reduceEqDiff, Nat.reduceAdd, Nat.reduceLeDiff, Nat.reduceLT, wr_cs, hc17, hc27, hc30, hg44, hg53, hc68]
                refine hK _ _ ?_
                clear hK K
                refine wpT_ret ⟨.inr rfl, ?_⟩
                show optK (resA _ _ _ [.tmp 4]) _
                simp only [SR, Option.map_some, Option.bind_some, ↓SP, SX, SW, TY, EN, sv_w, ↓reduceIte, reduceCtorEq, Nat.reduceEqDiff, Nat.reduceAdd, Nat.reduceLeDiff, Nat.reduceLT, wr_cs, hc17, hc27, hc30, hg44, hg53, hc68]
                refine Lend.eq ?_
                first
                  | rw [hx]
                  | rw [← hx, if_pos hb]
                  | rw [← hx]
              · skip
                have p68 := hc68
                try simp only [decide_eq_true_eq, decide_eq_false_iff_not, beq_iff_eq, bne_iff_ne, beq_eq_false_iff_ne, bne_eq_false_iff_eq, Bool.not_eq_true', Bool.not_eq_false'] at p68
                have hb : ¬ badO (some xs[i - 1]) xs[i] = true := by
                  intro h
                  have h := of_decide_eq_true h
                  omega
                have hx' : wsE sz (prevW xs (i + 1)) (xs.drop (i + 1)) = wsE sz none xs := by
                  rw [prevW_succ hlt]
                  rwa [if_neg hb] at hx
                refine wpT_skip ?_
                refine wpT_inBlock ?_
                refine wpT_region (by kernel_rfl) (fun K hK => ?_)
                simp only [↓SP, SX, SW, TY, EN, sv_w, ↓reduceIte, reduceCtorEq, Nat.reduceEqDiff, Nat.reduceAdd, Nat.reduceLeDiff, Nat.reduceLT, wr_cs, e6, wrap64 (x := (i : Int) + 1) (by omega) (by omega), hc17, hc27, hc30, hg44, hg53, hc68]
                refine hK _ _ ?_
                clear hK K
                refine wpT_keep0 ?_
                refine IH (i + 1) _ _ (by omega) ⟨⟨_, rfl⟩, by simp only [↓SP, SX, SW, TY, EN, sv_w, ↓reduceIte, reduceCtorEq, Nat.reduceEqDiff, Nat.reduceAdd, Nat.reduceLeDiff, Nat.reduceLT, wr_cs, e0], by simp only [↓SP, SX, SW, TY, EN, sv_w, ↓reduceIte, reduceCtorEq, Nat.reduceEqDiff, Nat.reduceAdd, Nat.reduceLeDiff, Nat.reduceLT, wr_cs, e1], by simp only [↓SP, SX, SW, TY, EN, sv_w, ↓reduceIte, reduceCtorEq, Nat.reduceEqDiff, Nat.reduceAdd, Nat.reduceLeDiff, Nat.reduceLT, wr_cs, Int.natCast_add, Int.cast_ofNat_Int], by omega, hx', hf'⟩
            · skip
              simp only [Bool.not_true, Bool.not_false] at hg53
              have p53 := hg53
              try simp only [decide_eq_true_eq, decide_eq_false_iff_not, beq_iff_eq, bne_iff_ne, beq_eq_false_iff_ne, bne_eq_false_iff_eq, Bool.not_eq_true', Bool.not_eq_false'] at p53
              simp only [↓SP, SX, SW, TY, EN, sv_w, ↓reduceIte, reduceCtorEq, Nat.reduceEqDiff, Nat.reduceAdd, Nat.reduceLeDiff, Nat.reduceLT, wr_cs, e0, e6, hg, Wr.av, wrap64 (x := xs[i - 1].start + (xs[i - 1].data.length : Int)) (by omega) (by omega), wrap64 (x := xs[i - 1].start + (xs[i - 1].data.length : Int) + 1) (by omega) (by omega), hc17, hc27, hc30, hg44, hg53]
              refine hK _ _ ?_
              clear hK K
              refine wpT_ifF (by simp only [↓SP, SX, SW, TY, EN, sv_w, ↓reduceIte, reduceCtorEq, Nat.reduceEqDiff, Nat.reduceAdd, Nat.reduceLeDiff, Nat.reduceLT, wr_cs, hc17, hc27, hc30, hg44, hg53]) ?_
              have hb : ¬ badO (some xs[i - 1]) xs[i] = true := by
                intro h
                have h := of_decide_eq_true h
                omega
              have hx' : wsE sz (prevW xs (i + 1)) (xs.drop (i + 1)) = wsE sz none xs := by
                rw [prevW_succ hlt]
                rwa [if_neg hb] at hx
              refine wpT_skip ?_
              refine wpT_inBlock ?_
              refine wpT_region (by kernel_rfl) (fun K hK => ?_)
              simp only [↓SP, SX, SW, TY, EN, sv_w, ↓reduceIte, reduceCtorEq, Nat.reduceEqDiff, Nat.reduceAdd, Nat.reduceLeDiff, Nat.reduceLT, wr_cs, e6, wrap64 (x := (i : Int) + 1) (by omega) (by omega), hc17, hc27, hc30, hg44, hg53]
              refine hK _ _ ?_
              clear hK K
              refine wpT_keep0 ?_
              refine IH (i + 1) _ _ (by omega) ⟨⟨_, rfl⟩, by simp only [↓SP, SX, SW, TY, EN, sv_w, ↓reduceIte, reduceCtorEq, Nat.reduceEqDiff, Nat.reduceAdd, Nat.reduceLeDiff, Nat.reduceLT, wr_cs, e0], by simp only [↓SP, SX, SW, TY, EN, sv_w, ↓reduceIte, reduceCtorEq, Nat.reduceEqDiff, Nat.reduceAdd, Nat.reduceLeDiff, Nat.reduceLT, wr_cs, e1], by simp only [↓SP, SX, SW, TY, EN, sv_w, ↓reduceIte, reduceCtorEq, Nat.reduceEqDiff, Nat.reduceAdd, Nat.reduceLeDiff, Nat.reduceLT, wr_cs, Int.natCast_add, Int.cast_ofNat_Int], by omega, hx', hf'⟩
          · skip
            simp only [Bool.not_true, Bool.not_false] at hg44
            have p44 := hg44
            try simp only [decide_eq_true_eq, decide_eq_false_iff_not, beq_iff_eq, bne_iff_ne, beq_eq_false_iff_ne, bne_eq_false_iff_eq, Bool.not_eq_true', Bool.not_eq_false'] at p44
            simp only [↓SP, SX, SW, TY, EN, sv_w, ↓reduceIte, reduceCtorEq, Nat.reduceEqDiff, Nat.reduceAdd, Nat.reduceLeDiff, Nat.reduceLT, wr_cs, e0, e6, hg, Wr.av, wrap64 (x := xs[i - 1].start + (xs[i - 1].data.length : Int)) (by omega) (by omega), wrap64 (x := xs[i - 1].start + (xs[i - 1].data.length : Int) + 1) (by omega) (by omega), hc17, hc27, hc30, hg44]
            refine hK _ _ ?_
            clear hK K
            refine wpT_ifT (by simp only [↓SP, SX, SW, TY, EN, sv_w, ↓reduceIte, reduceCtorEq, Nat.reduceEqDiff, Nat.reduceAdd, Nat.reduceLeDiff, Nat.reduceLT, wr_cs, hc17, hc27, hc30, hg44]) ?_
            have hb : badO (some xs[i - 1]) xs[i] = true := decide_eq_true (by omega)
            refine wpT_seq ?_
            refine wpT_region (by kernel_rfl) (fun K hK => ?_)
            simp only [↓SP, SX, SW, TY, EN, sv_w, ↓reduceIte, reduceCtorEq, Nat.reduceEqDiff, Nat.reduceAdd, Nat.reduceLeDiff, Nat.reduceLT, wr_cs, hc17, hc27, hc30, hg44]
            refine hK _ _ ?_
            clear hK K
            refine wpT_ret ⟨.inr rfl, ?_⟩
            show optK (resA _ _ _ [.tmp 4]) _
            simp only [SR, Option.map_some, Option.bind_some, ↓SP, SX, SW, TY, EN, sv_w, ↓reduceIte, reduceCtorEq, Nat.reduceEqDiff, Nat.reduceAdd, Nat.reduceLeDiff, Nat.reduceLT, wr_cs, hc17, hc27, hc30, hg44]
            refine Lend.eq ?_
            first
              | rw [hx]
              | rw [← hx, if_pos hb]
              | rw [← hx]
    · skip
      have p17 := hc17
      try simp only [decide_eq_true_eq, decide_eq_false_iff_not, beq_iff_eq, bne_iff_ne, beq_eq_false_iff_ne, bne_eq_false_iff_eq, Bool.not_eq_true', Bool.not_eq_false'] at p17
      rw [List.drop_eq_nil_of_le (by omega), wsE] at hx
      refine wpT_exit rfl ?_
      refine wpT_seq ?_
      refine wpT_region (by kernel_rfl) (fun K hK => ?_)
      simp only [↓SP, SX, SW, TY, EN, sv_w, ↓reduceIte, reduceCtorEq, Nat.reduceEqDiff, Nat.reduceAdd, Nat.reduceLeDiff, Nat.reduceLT, wr_cs, hc17]
      refine hK _ _ ?_
      clear hK K
      refine wpT_ret ⟨.inr rfl, ?_⟩
      show optK (resA _ _ _ [.tmp 4]) _
      simp only [SR, Option.map_some, Option.bind_some, ↓SP, SX, SW, TY, EN, sv_w, ↓reduceIte, reduceCtorEq, Nat.reduceEqDiff, Nat.reduceAdd, Nat.reduceLeDiff, Nat.reduceLT, wr_cs, hc17]
      refine Lend.eq ?_
      first
        | rw [hx]
        | rw [← hx, if_pos hb]
        | rw [← hx]
end Go.Proofs.Ytlmjpgmaefokdaa
end
