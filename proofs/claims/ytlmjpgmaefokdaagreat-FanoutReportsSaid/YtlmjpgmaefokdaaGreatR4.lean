/- Facts of the types of the program, as the abstract logic asks for them. Printed by an own program; each is checked by the kernel.
  The values of the program's types, as the abstract logic writes them: numbers, sectors, writes, cycles, fan-outs.
  What is read as a sector, a write, a cycle, a fan-out.
  Walks: equality of lists of numbers, sectors, writes; of cycles and fan-outs.
  Walks: equality of writes, cycles and fan-outs; what is few.
  Walks: equality of cycles and fan-outs; what is few.
  Walks: equality of fan-outs; New of the reference's side: its parts.
  Walks: the reference's checks of sizes, positions, writes and cycles.
  Walks: the reference's checks of lists of writes and of cycles. -/
import Derived.Test.YtlmjpgmaefokdaaGreatR3
import Derived.Test.YtlmjpgmaefokdaaGreatProg
section
set_option linter.unusedSimpArgs false
set_option linter.unusedVariables false
namespace Go.Proofs.YtlmjpgmaefokdaaGreat
open Go.Proofs
theorem agg3 : aggT Tryz.prog 3 = some false := by kernel_rfl
theorem cel3 : Tryz.prog.cellsOf 3 = 1 := by kernel_rfl
theorem pa3 : ∀ (cs : List AV) (o : Nat), partA Tryz.prog 3 cs o = cs[o]? := paT agg3
theorem lv3 : ∀ (v : AV) (o : Nat), loadV Tryz.prog 3 v o = v.cells[o]? := lvT agg3
theorem st3 : ∀ (id tot i off : Nat) (x : AV) (g : Nat → Option Ob), opStore Tryz.prog 3 (.ptr id tot i off) x g = stO 1 id tot i off x (g id) := stT cel3 rfl
theorem zr3 : zeroA Tryz.prog 3 = some (.int .i64 0) := by kernel_rfl
theorem by3 : Tryz.prog.bytesOf 3 = 8 := by kernel_rfl
theorem zo3 : zeroOk Tryz.prog 3 = true := by kernel_rfl
theorem agg4 : aggT Tryz.prog 4 = some false := by kernel_rfl
theorem cel4 : Tryz.prog.cellsOf 4 = 1 := by kernel_rfl
theorem pa4 : ∀ (cs : List AV) (o : Nat), partA Tryz.prog 4 cs o = cs[o]? := paT agg4
theorem lv4 : ∀ (v : AV) (o : Nat), loadV Tryz.prog 4 v o = v.cells[o]? := lvT agg4
theorem st4 : ∀ (id tot i off : Nat) (x : AV) (g : Nat → Option Ob), opStore Tryz.prog 4 (.ptr id tot i off) x g = stO 1 id tot i off x (g id) := stT cel4 rfl
theorem zr4 : zeroA Tryz.prog 4 = some (.bool false) := by kernel_rfl
theorem by4 : Tryz.prog.bytesOf 4 = 1 := by kernel_rfl
theorem zo4 : zeroOk Tryz.prog 4 = true := by kernel_rfl
theorem ib4 : isBoolT Tryz.prog 4 = true := by kernel_rfl
theorem agg5 : aggT Tryz.prog 5 = some false := by kernel_rfl
theorem cel5 : Tryz.prog.cellsOf 5 = 1 := by kernel_rfl
theorem pa5 : ∀ (cs : List AV) (o : Nat), partA Tryz.prog 5 cs o = cs[o]? := paT agg5
theorem lv5 : ∀ (v : AV) (o : Nat), loadV Tryz.prog 5 v o = v.cells[o]? := lvT agg5
theorem st5 : ∀ (id tot i off : Nat) (x : AV) (g : Nat → Option Ob), opStore Tryz.prog 5 (.ptr id tot i off) x g = stO 1 id tot i off x (g id) := stT cel5 rfl
theorem zr5 : zeroA Tryz.prog 5 = some (.int .u8 0) := by kernel_rfl
theorem by5 : Tryz.prog.bytesOf 5 = 1 := by kernel_rfl
theorem zo5 : zeroOk Tryz.prog 5 = true := by kernel_rfl
theorem agg23 : aggT Tryz.prog 23 = some false := by kernel_rfl
theorem cel23 : Tryz.prog.cellsOf 23 = 1 := by kernel_rfl
theorem pa23 : ∀ (cs : List AV) (o : Nat), partA Tryz.prog 23 cs o = cs[o]? := paT agg23
theorem lv23 : ∀ (v : AV) (o : Nat), loadV Tryz.prog 23 v o = v.cells[o]? := lvT agg23
theorem st23 : ∀ (id tot i off : Nat) (x : AV) (g : Nat → Option Ob), opStore Tryz.prog 23 (.ptr id tot i off) x g = stO 1 id tot i off x (g id) := stT cel23 rfl
theorem zr23 : zeroA Tryz.prog 23 = some .nil0 := by kernel_rfl
theorem by23 : Tryz.prog.bytesOf 23 = 24 := by kernel_rfl
theorem zo23 : zeroOk Tryz.prog 23 = true := by kernel_rfl
theorem agg33 : aggT Tryz.prog 33 = some false := by kernel_rfl
theorem cel33 : Tryz.prog.cellsOf 33 = 1 := by kernel_rfl
theorem pa33 : ∀ (cs : List AV) (o : Nat), partA Tryz.prog 33 cs o = cs[o]? := paT agg33
theorem lv33 : ∀ (v : AV) (o : Nat), loadV Tryz.prog 33 v o = v.cells[o]? := lvT agg33
theorem st33 : ∀ (id tot i off : Nat) (x : AV) (g : Nat → Option Ob), opStore Tryz.prog 33 (.ptr id tot i off) x g = stO 1 id tot i off x (g id) := stT cel33 rfl
theorem zr33 : zeroA Tryz.prog 33 = some (.int .i64 0) := by kernel_rfl
theorem by33 : Tryz.prog.bytesOf 33 = 8 := by kernel_rfl
theorem zo33 : zeroOk Tryz.prog 33 = true := by kernel_rfl
theorem agg46 : aggT Tryz.prog 46 = some false := by kernel_rfl
theorem cel46 : Tryz.prog.cellsOf 46 = 1 := by kernel_rfl
theorem pa46 : ∀ (cs : List AV) (o : Nat), partA Tryz.prog 46 cs o = cs[o]? := paT agg46
theorem lv46 : ∀ (v : AV) (o : Nat), loadV Tryz.prog 46 v o = v.cells[o]? := lvT agg46
theorem st46 : ∀ (id tot i off : Nat) (x : AV) (g : Nat → Option Ob), opStore Tryz.prog 46 (.ptr id tot i off) x g = stO 1 id tot i off x (g id) := stT cel46 rfl
theorem zr46 : zeroA Tryz.prog 46 = some .nil0 := by kernel_rfl
theorem by46 : Tryz.prog.bytesOf 46 = 24 := by kernel_rfl
theorem zo46 : zeroOk Tryz.prog 46 = true := by kernel_rfl
theorem agg47 : aggT Tryz.prog 47 = some false := by kernel_rfl
theorem cel47 : Tryz.prog.cellsOf 47 = 1 := by kernel_rfl
theorem pa47 : ∀ (cs : List AV) (o : Nat), partA Tryz.prog 47 cs o = cs[o]? := paT agg47
theorem lv47 : ∀ (v : AV) (o : Nat), loadV Tryz.prog 47 v o = v.cells[o]? := lvT agg47
theorem st47 : ∀ (id tot i off : Nat) (x : AV) (g : Nat → Option Ob), opStore Tryz.prog 47 (.ptr id tot i off) x g = stO 1 id tot i off x (g id) := stT cel47 rfl
theorem zr47 : zeroA Tryz.prog 47 = some .nil0 := by kernel_rfl
theorem by47 : Tryz.prog.bytesOf 47 = 24 := by kernel_rfl
theorem zo47 : zeroOk Tryz.prog 47 = true := by kernel_rfl
theorem agg49 : aggT Tryz.prog 49 = some true := by kernel_rfl
theorem cel49 : Tryz.prog.cellsOf 49 = 4 := by kernel_rfl
theorem pa49 : ∀ (cs : List AV) (o : Nat), partA Tryz.prog 49 cs o = if o + 4 ≤ cs.length then some (.agg ((cs.drop o).take 4)) else none := paT' agg49 cel49
theorem lv49 : ∀ (xs : List AV), loadV Tryz.prog 49 (.agg xs) 0 = if xs.length = 4 then some (.agg xs) else if 0 + 4 ≤ xs.length then some (.agg ((xs.drop 0).take 4)) else none := lvT' agg49 cel49
theorem st49 : ∀ (id tot i off : Nat) (x : AV) (g : Nat → Option Ob), opStore Tryz.prog 49 (.ptr id tot i off) x g = stO 4 id tot i off x (g id) := stT cel49 rfl
theorem zr49 : zeroA Tryz.prog 49 = some (.agg [(.int .i64 0), .nil0, .nil0, .nil0]) := by kernel_rfl
theorem by49 : Tryz.prog.bytesOf 49 = 80 := by kernel_rfl
theorem zo49 : zeroOk Tryz.prog 49 = true := by kernel_rfl
theorem agg50 : aggT Tryz.prog 50 = some false := by kernel_rfl
theorem cel50 : Tryz.prog.cellsOf 50 = 1 := by kernel_rfl
theorem pa50 : ∀ (cs : List AV) (o : Nat), partA Tryz.prog 50 cs o = cs[o]? := paT agg50
theorem lv50 : ∀ (v : AV) (o : Nat), loadV Tryz.prog 50 v o = v.cells[o]? := lvT agg50
theorem st50 : ∀ (id tot i off : Nat) (x : AV) (g : Nat → Option Ob), opStore Tryz.prog 50 (.ptr id tot i off) x g = stO 1 id tot i off x (g id) := stT cel50 rfl
theorem zr50 : zeroA Tryz.prog 50 = some .nil0 := by kernel_rfl
theorem by50 : Tryz.prog.bytesOf 50 = 24 := by kernel_rfl
theorem zo50 : zeroOk Tryz.prog 50 = true := by kernel_rfl
theorem agg52 : aggT Tryz.prog 52 = some true := by kernel_rfl
theorem cel52 : Tryz.prog.cellsOf 52 = 5 := by kernel_rfl
theorem pa52 : ∀ (cs : List AV) (o : Nat), partA Tryz.prog 52 cs o = if o + 5 ≤ cs.length then some (.agg ((cs.drop o).take 5)) else none := paT' agg52 cel52
theorem lv52 : ∀ (xs : List AV), loadV Tryz.prog 52 (.agg xs) 0 = if xs.length = 5 then some (.agg xs) else if 0 + 5 ≤ xs.length then some (.agg ((xs.drop 0).take 5)) else none := lvT' agg52 cel52
theorem st52 : ∀ (id tot i off : Nat) (x : AV) (g : Nat → Option Ob), opStore Tryz.prog 52 (.ptr id tot i off) x g = stO 5 id tot i off x (g id) := stT cel52 rfl
theorem zr52 : zeroA Tryz.prog 52 = some (.agg [(.int .i64 0), (.int .i64 0), (.int .i64 0), .nil0, .nil0]) := by kernel_rfl
theorem by52 : Tryz.prog.bytesOf 52 = 72 := by kernel_rfl
theorem zo52 : zeroOk Tryz.prog 52 = true := by kernel_rfl
theorem agg54 : aggT Tryz.prog 54 = some false := by kernel_rfl
theorem cel54 : Tryz.prog.cellsOf 54 = 1 := by kernel_rfl
theorem pa54 : ∀ (cs : List AV) (o : Nat), partA Tryz.prog 54 cs o = cs[o]? := paT agg54
theorem lv54 : ∀ (v : AV) (o : Nat), loadV Tryz.prog 54 v o = v.cells[o]? := lvT agg54
theorem st54 : ∀ (id tot i off : Nat) (x : AV) (g : Nat → Option Ob), opStore Tryz.prog 54 (.ptr id tot i off) x g = stO 1 id tot i off x (g id) := stT cel54 rfl
theorem zr54 : zeroA Tryz.prog 54 = some .nilf := by kernel_rfl
theorem by54 : Tryz.prog.bytesOf 54 = 8 := by kernel_rfl
theorem zo54 : zeroOk Tryz.prog 54 = true := by kernel_rfl
theorem agg69 : aggT Tryz.prog 69 = some false := by kernel_rfl
theorem cel69 : Tryz.prog.cellsOf 69 = 1 := by kernel_rfl
theorem pa69 : ∀ (cs : List AV) (o : Nat), partA Tryz.prog 69 cs o = cs[o]? := paT agg69
theorem lv69 : ∀ (v : AV) (o : Nat), loadV Tryz.prog 69 v o = v.cells[o]? := lvT agg69
theorem st69 : ∀ (id tot i off : Nat) (x : AV) (g : Nat → Option Ob), opStore Tryz.prog 69 (.ptr id tot i off) x g = stO 1 id tot i off x (g id) := stT cel69 rfl
theorem zr69 : zeroA Tryz.prog 69 = some .nil0 := by kernel_rfl
theorem by69 : Tryz.prog.bytesOf 69 = 24 := by kernel_rfl
theorem zo69 : zeroOk Tryz.prog 69 = true := by kernel_rfl
theorem agg70 : aggT Tryz.prog 70 = some false := by kernel_rfl
theorem cel70 : Tryz.prog.cellsOf 70 = 1 := by kernel_rfl
theorem pa70 : ∀ (cs : List AV) (o : Nat), partA Tryz.prog 70 cs o = cs[o]? := paT agg70
theorem lv70 : ∀ (v : AV) (o : Nat), loadV Tryz.prog 70 v o = v.cells[o]? := lvT agg70
theorem st70 : ∀ (id tot i off : Nat) (x : AV) (g : Nat → Option Ob), opStore Tryz.prog 70 (.ptr id tot i off) x g = stO 1 id tot i off x (g id) := stT cel70 rfl
theorem zr70 : zeroA Tryz.prog 70 = some .nil0 := by kernel_rfl
theorem by70 : Tryz.prog.bytesOf 70 = 24 := by kernel_rfl
theorem zo70 : zeroOk Tryz.prog 70 = true := by kernel_rfl
theorem agg135 : aggT Tryz.prog 135 = some false := by kernel_rfl
theorem cel135 : Tryz.prog.cellsOf 135 = 1 := by kernel_rfl
theorem pa135 : ∀ (cs : List AV) (o : Nat), partA Tryz.prog 135 cs o = cs[o]? := paT agg135
theorem lv135 : ∀ (v : AV) (o : Nat), loadV Tryz.prog 135 v o = v.cells[o]? := lvT agg135
theorem st135 : ∀ (id tot i off : Nat) (x : AV) (g : Nat → Option Ob), opStore Tryz.prog 135 (.ptr id tot i off) x g = stO 1 id tot i off x (g id) := stT cel135 rfl
theorem zr135 : zeroA Tryz.prog 135 = some (.int .u64 0) := by kernel_rfl
theorem by135 : Tryz.prog.bytesOf 135 = 8 := by kernel_rfl
theorem zo135 : zeroOk Tryz.prog 135 = true := by kernel_rfl
theorem agg137 : aggT Tryz.prog 137 = some true := by kernel_rfl
theorem cel137 : Tryz.prog.cellsOf 137 = 8 := by kernel_rfl
theorem pa137 : ∀ (cs : List AV) (o : Nat), partA Tryz.prog 137 cs o = if o + 8 ≤ cs.length then some (.agg ((cs.drop o).take 8)) else none := paT' agg137 cel137
theorem lv137 : ∀ (xs : List AV), loadV Tryz.prog 137 (.agg xs) 0 = if xs.length = 8 then some (.agg xs) else if 0 + 8 ≤ xs.length then some (.agg ((xs.drop 0).take 8)) else none := lvT' agg137 cel137
theorem st137 : ∀ (id tot i off : Nat) (x : AV) (g : Nat → Option Ob), opStore Tryz.prog 137 (.ptr id tot i off) x g = stO 8 id tot i off x (g id) := stT cel137 rfl
theorem zr137 : zeroA Tryz.prog 137 = some (.agg [(.int .u8 0), (.int .u8 0), (.int .u8 0), (.int .u8 0), (.int .u8 0), (.int .u8 0), (.int .u8 0), (.int .u8 0)]) := by kernel_rfl
theorem by137 : Tryz.prog.bytesOf 137 = 8 := by kernel_rfl
theorem zo137 : zeroOk Tryz.prog 137 = true := by kernel_rfl
theorem agg138 : aggT Tryz.prog 138 = some false := by kernel_rfl
theorem cel138 : Tryz.prog.cellsOf 138 = 1 := by kernel_rfl
theorem pa138 : ∀ (cs : List AV) (o : Nat), partA Tryz.prog 138 cs o = cs[o]? := paT agg138
theorem lv138 : ∀ (v : AV) (o : Nat), loadV Tryz.prog 138 v o = v.cells[o]? := lvT agg138
theorem st138 : ∀ (id tot i off : Nat) (x : AV) (g : Nat → Option Ob), opStore Tryz.prog 138 (.ptr id tot i off) x g = stO 1 id tot i off x (g id) := stT cel138 rfl
theorem zr138 : zeroA Tryz.prog 138 = some .nil0 := by kernel_rfl
theorem by138 : Tryz.prog.bytesOf 138 = 24 := by kernel_rfl
theorem zo138 : zeroOk Tryz.prog 138 = true := by kernel_rfl
theorem agg140 : aggT Tryz.prog 140 = some true := by kernel_rfl
theorem cel140 : Tryz.prog.cellsOf 140 = 3 := by kernel_rfl
theorem pa140 : ∀ (cs : List AV) (o : Nat), partA Tryz.prog 140 cs o = if o + 3 ≤ cs.length then some (.agg ((cs.drop o).take 3)) else none := paT' agg140 cel140
theorem lv140 : ∀ (xs : List AV), loadV Tryz.prog 140 (.agg xs) 0 = if xs.length = 3 then some (.agg xs) else if 0 + 3 ≤ xs.length then some (.agg ((xs.drop 0).take 3)) else none := lvT' agg140 cel140
theorem st140 : ∀ (id tot i off : Nat) (x : AV) (g : Nat → Option Ob), opStore Tryz.prog 140 (.ptr id tot i off) x g = stO 3 id tot i off x (g id) := stT cel140 rfl
theorem zr140 : zeroA Tryz.prog 140 = some (.agg [(.int .i64 0), (.int .i64 0), .nil0]) := by kernel_rfl
theorem by140 : Tryz.prog.bytesOf 140 = 40 := by kernel_rfl
theorem zo140 : zeroOk Tryz.prog 140 = true := by kernel_rfl
theorem agg145 : aggT Tryz.prog 145 = some false := by kernel_rfl
theorem cel145 : Tryz.prog.cellsOf 145 = 1 := by kernel_rfl
theorem pa145 : ∀ (cs : List AV) (o : Nat), partA Tryz.prog 145 cs o = cs[o]? := paT agg145
theorem lv145 : ∀ (v : AV) (o : Nat), loadV Tryz.prog 145 v o = v.cells[o]? := lvT agg145
theorem st145 : ∀ (id tot i off : Nat) (x : AV) (g : Nat → Option Ob), opStore Tryz.prog 145 (.ptr id tot i off) x g = stO 1 id tot i off x (g id) := stT cel145 rfl
theorem zr145 : zeroA Tryz.prog 145 = some .nilf := by kernel_rfl
theorem by145 : Tryz.prog.bytesOf 145 = 8 := by kernel_rfl
theorem zo145 : zeroOk Tryz.prog 145 = true := by kernel_rfl
theorem agg264 : aggT Tryz.prog 264 = some false := by kernel_rfl
theorem cel264 : Tryz.prog.cellsOf 264 = 1 := by kernel_rfl
theorem pa264 : ∀ (cs : List AV) (o : Nat), partA Tryz.prog 264 cs o = cs[o]? := paT agg264
theorem lv264 : ∀ (v : AV) (o : Nat), loadV Tryz.prog 264 v o = v.cells[o]? := lvT agg264
theorem st264 : ∀ (id tot i off : Nat) (x : AV) (g : Nat → Option Ob), opStore Tryz.prog 264 (.ptr id tot i off) x g = stO 1 id tot i off x (g id) := stT cel264 rfl
theorem zr264 : zeroA Tryz.prog 264 = some (.int .u64 0) := by kernel_rfl
theorem by264 : Tryz.prog.bytesOf 264 = 8 := by kernel_rfl
theorem zo264 : zeroOk Tryz.prog 264 = true := by kernel_rfl
theorem sle23 : sliceElem Tryz.prog 23 = some 3 := by kernel_rfl
theorem hi23 : hasInfo Tryz.prog 23 = true := by kernel_rfl
theorem ln23 : ∀ (xs : List AV) (g : Nat → Option Ob), opLen Tryz.prog 23 (.lst xs) g = some (.int .i64 xs.length) := lenT_lst sle23
theorem lz23 : ∀ (g : Nat → Option Ob), opLen Tryz.prog 23 .nil0 g = some (.int .i64 0) := lenT_nil0 sle23
theorem ls23 : ∀ (id tot off len : Nat) (g : Nat → Option Ob), opLen Tryz.prog 23 (.sl id tot off len) g = lenO tot len (g id) := lenT_sl sle23
theorem ia23 : ∀ (xs : List AV) (k : IntKind) (i : Nat) (g : Nat → Option Ob), opIndexAddr Tryz.prog 23 (.lst xs) (.int k i) g = idxO 1 xs[i]? := iaT_lst sle23 cel3
theorem iz23 : ∀ (xs : List AV) (k : IntKind) (g : Nat → Option Ob), opIndexAddr Tryz.prog 23 (.lst xs) (.int k 0) g = idxO 1 xs[0]? := iaT_lst0 sle23 cel3
theorem is23 : ∀ (id tot off len : Nat) (k : IntKind) (n : Int) (g : Nat → Option Ob), opIndexAddr Tryz.prog 23 (.sl id tot off len) (.int k n) g = iaO 1 id tot off len n (g id) := iaT_sl sle23 cel3
theorem ap23 : ∀ (s x : AV) (g : Nat → Option Ob) (nid : Nat), opAppend Tryz.prog 23 s x g nid = apO 3 1 8 nid s g (rdS g x) := apT sle23 zo3 cel3 by3
theorem bz23 : ∀ (nid : Nat), opBuildSlice Tryz.prog 23 0 [] nid = some (.nil0, .non) := bsT0 sle23 zo3
theorem bs23 : ∀ (parts : List (Nat × AV)) (nid : Nat), opBuildSlice Tryz.prog 23 1 parts nid = bsO 3 1 (.int .i64 0) 1 parts nid := bsT sle23 zo3 cel3 zr3 rfl rfl rfl
theorem ms23 : ∀ (k k' : IntKind) (n m : Int) (nid : Nat), opMakeSlice Tryz.prog 23 (.int k n) (.int k' m) nid = msO 3 1 8 (.int .i64 0) n m nid := msT sle23 zo3 cel3 by3 zr3 rfl rfl
theorem sle46 : sliceElem Tryz.prog 46 = some 52 := by kernel_rfl
theorem hi46 : hasInfo Tryz.prog 46 = true := by kernel_rfl
theorem ln46 : ∀ (xs : List AV) (g : Nat → Option Ob), opLen Tryz.prog 46 (.lst xs) g = some (.int .i64 xs.length) := lenT_lst sle46
theorem lz46 : ∀ (g : Nat → Option Ob), opLen Tryz.prog 46 .nil0 g = some (.int .i64 0) := lenT_nil0 sle46
theorem ls46 : ∀ (id tot off len : Nat) (g : Nat → Option Ob), opLen Tryz.prog 46 (.sl id tot off len) g = lenO tot len (g id) := lenT_sl sle46
theorem ia46 : ∀ (xs : List AV) (k : IntKind) (i : Nat) (g : Nat → Option Ob), opIndexAddr Tryz.prog 46 (.lst xs) (.int k i) g = idxO 5 xs[i]? := iaT_lst sle46 cel52
theorem iz46 : ∀ (xs : List AV) (k : IntKind) (g : Nat → Option Ob), opIndexAddr Tryz.prog 46 (.lst xs) (.int k 0) g = idxO 5 xs[0]? := iaT_lst0 sle46 cel52
theorem is46 : ∀ (id tot off len : Nat) (k : IntKind) (n : Int) (g : Nat → Option Ob), opIndexAddr Tryz.prog 46 (.sl id tot off len) (.int k n) g = iaO 5 id tot off len n (g id) := iaT_sl sle46 cel52
theorem ap46 : ∀ (s x : AV) (g : Nat → Option Ob) (nid : Nat), opAppend Tryz.prog 46 s x g nid = apO 52 5 72 nid s g (rdS g x) := apT sle46 zo52 cel52 by52
theorem bz46 : ∀ (nid : Nat), opBuildSlice Tryz.prog 46 0 [] nid = some (.nil0, .non) := bsT0 sle46 zo52
theorem bs46 : ∀ (parts : List (Nat × AV)) (nid : Nat), opBuildSlice Tryz.prog 46 1 parts nid = bsO 52 5 (.agg [(.int .i64 0), (.int .i64 0), (.int .i64 0), .nil0, .nil0]) 1 parts nid := bsT sle46 zo52 cel52 zr52 rfl rfl rfl
theorem ms46 : ∀ (k k' : IntKind) (n m : Int) (nid : Nat), opMakeSlice Tryz.prog 46 (.int k n) (.int k' m) nid = msO 52 5 72 (.agg [(.int .i64 0), (.int .i64 0), (.int .i64 0), .nil0, .nil0]) n m nid := msT sle46 zo52 cel52 by52 zr52 rfl rfl
theorem sle47 : sliceElem Tryz.prog 47 = some 4 := by kernel_rfl
theorem hi47 : hasInfo Tryz.prog 47 = true := by kernel_rfl
theorem ln47 : ∀ (xs : List AV) (g : Nat → Option Ob), opLen Tryz.prog 47 (.lst xs) g = some (.int .i64 xs.length) := lenT_lst sle47
theorem lz47 : ∀ (g : Nat → Option Ob), opLen Tryz.prog 47 .nil0 g = some (.int .i64 0) := lenT_nil0 sle47
theorem ls47 : ∀ (id tot off len : Nat) (g : Nat → Option Ob), opLen Tryz.prog 47 (.sl id tot off len) g = lenO tot len (g id) := lenT_sl sle47
theorem ia47 : ∀ (xs : List AV) (k : IntKind) (i : Nat) (g : Nat → Option Ob), opIndexAddr Tryz.prog 47 (.lst xs) (.int k i) g = idxO 1 xs[i]? := iaT_lst sle47 cel4
theorem iz47 : ∀ (xs : List AV) (k : IntKind) (g : Nat → Option Ob), opIndexAddr Tryz.prog 47 (.lst xs) (.int k 0) g = idxO 1 xs[0]? := iaT_lst0 sle47 cel4
theorem is47 : ∀ (id tot off len : Nat) (k : IntKind) (n : Int) (g : Nat → Option Ob), opIndexAddr Tryz.prog 47 (.sl id tot off len) (.int k n) g = iaO 1 id tot off len n (g id) := iaT_sl sle47 cel4
theorem ap47 : ∀ (s x : AV) (g : Nat → Option Ob) (nid : Nat), opAppend Tryz.prog 47 s x g nid = apO 4 1 1 nid s g (rdS g x) := apT sle47 zo4 cel4 by4
theorem bz47 : ∀ (nid : Nat), opBuildSlice Tryz.prog 47 0 [] nid = some (.nil0, .non) := bsT0 sle47 zo4
theorem bs47 : ∀ (parts : List (Nat × AV)) (nid : Nat), opBuildSlice Tryz.prog 47 1 parts nid = bsO 4 1 (.bool false) 1 parts nid := bsT sle47 zo4 cel4 zr4 rfl rfl rfl
theorem ms47 : ∀ (k k' : IntKind) (n m : Int) (nid : Nat), opMakeSlice Tryz.prog 47 (.int k n) (.int k' m) nid = msO 4 1 1 (.bool false) n m nid := msT sle47 zo4 cel4 by4 zr4 rfl rfl
theorem fo49x0 : fieldTO Tryz.prog 49 0 = some (3, 0) := by kernel_rfl
theorem fp49x0 : ∀ (id tot i off : Nat), opFieldAddr Tryz.prog 49 (.ptr id tot i off) 0 = some (.ptr id tot i (off + 0)) := fpT fo49x0 (by kernel_rfl)
theorem fc49x0 : ∀ (v : AV), opFieldAddr Tryz.prog 49 (.cptr v) 0 = fcO false (partA Tryz.prog 3 v.cells 0) := fcT fo49x0 (by kernel_rfl) (by kernel_rfl)
theorem fg49x0 : ∀ (xs : List AV), opField Tryz.prog 49 (.agg xs) 0 = partA Tryz.prog 3 xs 0 := fgT fo49x0
theorem fo49x1 : fieldTO Tryz.prog 49 1 = some (46, 1) := by kernel_rfl
theorem fp49x1 : ∀ (id tot i off : Nat), opFieldAddr Tryz.prog 49 (.ptr id tot i off) 1 = some (.ptr id tot i (off + 1)) := fpT fo49x1 (by kernel_rfl)
theorem fc49x1 : ∀ (v : AV), opFieldAddr Tryz.prog 49 (.cptr v) 1 = fcO false (partA Tryz.prog 46 v.cells 1) := fcT fo49x1 (by kernel_rfl) (by kernel_rfl)
theorem fg49x1 : ∀ (xs : List AV), opField Tryz.prog 49 (.agg xs) 1 = partA Tryz.prog 46 xs 1 := fgT fo49x1
theorem fo49x2 : fieldTO Tryz.prog 49 2 = some (23, 2) := by kernel_rfl
theorem fp49x2 : ∀ (id tot i off : Nat), opFieldAddr Tryz.prog 49 (.ptr id tot i off) 2 = some (.ptr id tot i (off + 2)) := fpT fo49x2 (by kernel_rfl)
theorem fc49x2 : ∀ (v : AV), opFieldAddr Tryz.prog 49 (.cptr v) 2 = fcO false (partA Tryz.prog 23 v.cells 2) := fcT fo49x2 (by kernel_rfl) (by kernel_rfl)
theorem fg49x2 : ∀ (xs : List AV), opField Tryz.prog 49 (.agg xs) 2 = partA Tryz.prog 23 xs 2 := fgT fo49x2
theorem fo49x3 : fieldTO Tryz.prog 49 3 = some (47, 3) := by kernel_rfl
theorem fp49x3 : ∀ (id tot i off : Nat), opFieldAddr Tryz.prog 49 (.ptr id tot i off) 3 = some (.ptr id tot i (off + 3)) := fpT fo49x3 (by kernel_rfl)
theorem fc49x3 : ∀ (v : AV), opFieldAddr Tryz.prog 49 (.cptr v) 3 = fcO false (partA Tryz.prog 47 v.cells 3) := fcT fo49x3 (by kernel_rfl) (by kernel_rfl)
theorem fg49x3 : ∀ (xs : List AV), opField Tryz.prog 49 (.agg xs) 3 = partA Tryz.prog 47 xs 3 := fgT fo49x3
theorem bd49 : ∀ parts : List (Nat × AV), opBuild Tryz.prog 49 parts = bdO [(0, 1), (1, 1), (2, 1), (3, 1)] [(.int .i64 0), .nil0, .nil0, .nil0] parts := bdT (by kernel_rfl) zr49
theorem sle50 : sliceElem Tryz.prog 50 = some 140 := by kernel_rfl
theorem hi50 : hasInfo Tryz.prog 50 = true := by kernel_rfl
theorem ln50 : ∀ (xs : List AV) (g : Nat → Option Ob), opLen Tryz.prog 50 (.lst xs) g = some (.int .i64 xs.length) := lenT_lst sle50
theorem lz50 : ∀ (g : Nat → Option Ob), opLen Tryz.prog 50 .nil0 g = some (.int .i64 0) := lenT_nil0 sle50
theorem ls50 : ∀ (id tot off len : Nat) (g : Nat → Option Ob), opLen Tryz.prog 50 (.sl id tot off len) g = lenO tot len (g id) := lenT_sl sle50
theorem ia50 : ∀ (xs : List AV) (k : IntKind) (i : Nat) (g : Nat → Option Ob), opIndexAddr Tryz.prog 50 (.lst xs) (.int k i) g = idxO 3 xs[i]? := iaT_lst sle50 cel140
theorem iz50 : ∀ (xs : List AV) (k : IntKind) (g : Nat → Option Ob), opIndexAddr Tryz.prog 50 (.lst xs) (.int k 0) g = idxO 3 xs[0]? := iaT_lst0 sle50 cel140
theorem is50 : ∀ (id tot off len : Nat) (k : IntKind) (n : Int) (g : Nat → Option Ob), opIndexAddr Tryz.prog 50 (.sl id tot off len) (.int k n) g = iaO 3 id tot off len n (g id) := iaT_sl sle50 cel140
theorem ap50 : ∀ (s x : AV) (g : Nat → Option Ob) (nid : Nat), opAppend Tryz.prog 50 s x g nid = apO 140 3 40 nid s g (rdS g x) := apT sle50 zo140 cel140 by140
theorem bz50 : ∀ (nid : Nat), opBuildSlice Tryz.prog 50 0 [] nid = some (.nil0, .non) := bsT0 sle50 zo140
theorem bs50 : ∀ (parts : List (Nat × AV)) (nid : Nat), opBuildSlice Tryz.prog 50 1 parts nid = bsO 140 3 (.agg [(.int .i64 0), (.int .i64 0), .nil0]) 1 parts nid := bsT sle50 zo140 cel140 zr140 rfl rfl rfl
theorem ms50 : ∀ (k k' : IntKind) (n m : Int) (nid : Nat), opMakeSlice Tryz.prog 50 (.int k n) (.int k' m) nid = msO 140 3 40 (.agg [(.int .i64 0), (.int .i64 0), .nil0]) n m nid := msT sle50 zo140 cel140 by140 zr140 rfl rfl
theorem fo52x0 : fieldTO Tryz.prog 52 0 = some (3, 0) := by kernel_rfl
theorem fp52x0 : ∀ (id tot i off : Nat), opFieldAddr Tryz.prog 52 (.ptr id tot i off) 0 = some (.ptr id tot i (off + 0)) := fpT fo52x0 (by kernel_rfl)
theorem fc52x0 : ∀ (v : AV), opFieldAddr Tryz.prog 52 (.cptr v) 0 = fcO false (partA Tryz.prog 3 v.cells 0) := fcT fo52x0 (by kernel_rfl) (by kernel_rfl)
theorem fg52x0 : ∀ (xs : List AV), opField Tryz.prog 52 (.agg xs) 0 = partA Tryz.prog 3 xs 0 := fgT fo52x0
theorem fo52x1 : fieldTO Tryz.prog 52 1 = some (3, 1) := by kernel_rfl
theorem fp52x1 : ∀ (id tot i off : Nat), opFieldAddr Tryz.prog 52 (.ptr id tot i off) 1 = some (.ptr id tot i (off + 1)) := fpT fo52x1 (by kernel_rfl)
theorem fc52x1 : ∀ (v : AV), opFieldAddr Tryz.prog 52 (.cptr v) 1 = fcO false (partA Tryz.prog 3 v.cells 1) := fcT fo52x1 (by kernel_rfl) (by kernel_rfl)
theorem fg52x1 : ∀ (xs : List AV), opField Tryz.prog 52 (.agg xs) 1 = partA Tryz.prog 3 xs 1 := fgT fo52x1
theorem fo52x2 : fieldTO Tryz.prog 52 2 = some (3, 2) := by kernel_rfl
theorem fp52x2 : ∀ (id tot i off : Nat), opFieldAddr Tryz.prog 52 (.ptr id tot i off) 2 = some (.ptr id tot i (off + 2)) := fpT fo52x2 (by kernel_rfl)
theorem fc52x2 : ∀ (v : AV), opFieldAddr Tryz.prog 52 (.cptr v) 2 = fcO false (partA Tryz.prog 3 v.cells 2) := fcT fo52x2 (by kernel_rfl) (by kernel_rfl)
theorem fg52x2 : ∀ (xs : List AV), opField Tryz.prog 52 (.agg xs) 2 = partA Tryz.prog 3 xs 2 := fgT fo52x2
theorem fo52x3 : fieldTO Tryz.prog 52 3 = some (23, 3) := by kernel_rfl
theorem fp52x3 : ∀ (id tot i off : Nat), opFieldAddr Tryz.prog 52 (.ptr id tot i off) 3 = some (.ptr id tot i (off + 3)) := fpT fo52x3 (by kernel_rfl)
theorem fc52x3 : ∀ (v : AV), opFieldAddr Tryz.prog 52 (.cptr v) 3 = fcO false (partA Tryz.prog 23 v.cells 3) := fcT fo52x3 (by kernel_rfl) (by kernel_rfl)
theorem fg52x3 : ∀ (xs : List AV), opField Tryz.prog 52 (.agg xs) 3 = partA Tryz.prog 23 xs 3 := fgT fo52x3
theorem fo52x4 : fieldTO Tryz.prog 52 4 = some (50, 4) := by kernel_rfl
theorem fp52x4 : ∀ (id tot i off : Nat), opFieldAddr Tryz.prog 52 (.ptr id tot i off) 4 = some (.ptr id tot i (off + 4)) := fpT fo52x4 (by kernel_rfl)
theorem fc52x4 : ∀ (v : AV), opFieldAddr Tryz.prog 52 (.cptr v) 4 = fcO false (partA Tryz.prog 50 v.cells 4) := fcT fo52x4 (by kernel_rfl) (by kernel_rfl)
theorem fg52x4 : ∀ (xs : List AV), opField Tryz.prog 52 (.agg xs) 4 = partA Tryz.prog 50 xs 4 := fgT fo52x4
theorem bd52 : ∀ parts : List (Nat × AV), opBuild Tryz.prog 52 parts = bdO [(0, 1), (1, 1), (2, 1), (3, 1), (4, 1)] [(.int .i64 0), (.int .i64 0), (.int .i64 0), .nil0, .nil0] parts := bdT (by kernel_rfl) zr52
theorem sle69 : sliceElem Tryz.prog 69 = some 138 := by kernel_rfl
theorem hi69 : hasInfo Tryz.prog 69 = true := by kernel_rfl
theorem ln69 : ∀ (xs : List AV) (g : Nat → Option Ob), opLen Tryz.prog 69 (.lst xs) g = some (.int .i64 xs.length) := lenT_lst sle69
theorem lz69 : ∀ (g : Nat → Option Ob), opLen Tryz.prog 69 .nil0 g = some (.int .i64 0) := lenT_nil0 sle69
theorem ls69 : ∀ (id tot off len : Nat) (g : Nat → Option Ob), opLen Tryz.prog 69 (.sl id tot off len) g = lenO tot len (g id) := lenT_sl sle69
theorem ia69 : ∀ (xs : List AV) (k : IntKind) (i : Nat) (g : Nat → Option Ob), opIndexAddr Tryz.prog 69 (.lst xs) (.int k i) g = idxO 1 xs[i]? := iaT_lst sle69 cel138
theorem iz69 : ∀ (xs : List AV) (k : IntKind) (g : Nat → Option Ob), opIndexAddr Tryz.prog 69 (.lst xs) (.int k 0) g = idxO 1 xs[0]? := iaT_lst0 sle69 cel138
theorem is69 : ∀ (id tot off len : Nat) (k : IntKind) (n : Int) (g : Nat → Option Ob), opIndexAddr Tryz.prog 69 (.sl id tot off len) (.int k n) g = iaO 1 id tot off len n (g id) := iaT_sl sle69 cel138
theorem ap69 : ∀ (s x : AV) (g : Nat → Option Ob) (nid : Nat), opAppend Tryz.prog 69 s x g nid = apO 138 1 24 nid s g (rdS g x) := apT sle69 zo138 cel138 by138
theorem bz69 : ∀ (nid : Nat), opBuildSlice Tryz.prog 69 0 [] nid = some (.nil0, .non) := bsT0 sle69 zo138
theorem bs69 : ∀ (parts : List (Nat × AV)) (nid : Nat), opBuildSlice Tryz.prog 69 1 parts nid = bsO 138 1 .nil0 1 parts nid := bsT sle69 zo138 cel138 zr138 rfl rfl rfl
theorem ms69 : ∀ (k k' : IntKind) (n m : Int) (nid : Nat), opMakeSlice Tryz.prog 69 (.int k n) (.int k' m) nid = msO 138 1 24 .nil0 n m nid := msT sle69 zo138 cel138 by138 zr138 rfl rfl
theorem sle70 : sliceElem Tryz.prog 70 = some 138 := by kernel_rfl
theorem hi70 : hasInfo Tryz.prog 70 = true := by kernel_rfl
theorem ln70 : ∀ (xs : List AV) (g : Nat → Option Ob), opLen Tryz.prog 70 (.lst xs) g = some (.int .i64 xs.length) := lenT_lst sle70
theorem lz70 : ∀ (g : Nat → Option Ob), opLen Tryz.prog 70 .nil0 g = some (.int .i64 0) := lenT_nil0 sle70
theorem ls70 : ∀ (id tot off len : Nat) (g : Nat → Option Ob), opLen Tryz.prog 70 (.sl id tot off len) g = lenO tot len (g id) := lenT_sl sle70
theorem ia70 : ∀ (xs : List AV) (k : IntKind) (i : Nat) (g : Nat → Option Ob), opIndexAddr Tryz.prog 70 (.lst xs) (.int k i) g = idxO 1 xs[i]? := iaT_lst sle70 cel138
theorem iz70 : ∀ (xs : List AV) (k : IntKind) (g : Nat → Option Ob), opIndexAddr Tryz.prog 70 (.lst xs) (.int k 0) g = idxO 1 xs[0]? := iaT_lst0 sle70 cel138
theorem is70 : ∀ (id tot off len : Nat) (k : IntKind) (n : Int) (g : Nat → Option Ob), opIndexAddr Tryz.prog 70 (.sl id tot off len) (.int k n) g = iaO 1 id tot off len n (g id) := iaT_sl sle70 cel138
theorem ap70 : ∀ (s x : AV) (g : Nat → Option Ob) (nid : Nat), opAppend Tryz.prog 70 s x g nid = apO 138 1 24 nid s g (rdS g x) := apT sle70 zo138 cel138 by138
theorem bz70 : ∀ (nid : Nat), opBuildSlice Tryz.prog 70 0 [] nid = some (.nil0, .non) := bsT0 sle70 zo138
theorem bs70 : ∀ (parts : List (Nat × AV)) (nid : Nat), opBuildSlice Tryz.prog 70 1 parts nid = bsO 138 1 .nil0 1 parts nid := bsT sle70 zo138 cel138 zr138 rfl rfl rfl
theorem ms70 : ∀ (k k' : IntKind) (n m : Int) (nid : Nat), opMakeSlice Tryz.prog 70 (.int k n) (.int k' m) nid = msO 138 1 24 .nil0 n m nid := msT sle70 zo138 cel138 by138 zr138 rfl rfl
theorem sle138 : sliceElem Tryz.prog 138 = some 137 := by kernel_rfl
theorem hi138 : hasInfo Tryz.prog 138 = true := by kernel_rfl
theorem ln138 : ∀ (xs : List AV) (g : Nat → Option Ob), opLen Tryz.prog 138 (.lst xs) g = some (.int .i64 xs.length) := lenT_lst sle138
theorem lz138 : ∀ (g : Nat → Option Ob), opLen Tryz.prog 138 .nil0 g = some (.int .i64 0) := lenT_nil0 sle138
theorem ls138 : ∀ (id tot off len : Nat) (g : Nat → Option Ob), opLen Tryz.prog 138 (.sl id tot off len) g = lenO tot len (g id) := lenT_sl sle138
theorem ia138 : ∀ (xs : List AV) (k : IntKind) (i : Nat) (g : Nat → Option Ob), opIndexAddr Tryz.prog 138 (.lst xs) (.int k i) g = idxO 8 xs[i]? := iaT_lst sle138 cel137
theorem iz138 : ∀ (xs : List AV) (k : IntKind) (g : Nat → Option Ob), opIndexAddr Tryz.prog 138 (.lst xs) (.int k 0) g = idxO 8 xs[0]? := iaT_lst0 sle138 cel137
theorem is138 : ∀ (id tot off len : Nat) (k : IntKind) (n : Int) (g : Nat → Option Ob), opIndexAddr Tryz.prog 138 (.sl id tot off len) (.int k n) g = iaO 8 id tot off len n (g id) := iaT_sl sle138 cel137
theorem ap138 : ∀ (s x : AV) (g : Nat → Option Ob) (nid : Nat), opAppend Tryz.prog 138 s x g nid = apO 137 8 8 nid s g (rdS g x) := apT sle138 zo137 cel137 by137
theorem bz138 : ∀ (nid : Nat), opBuildSlice Tryz.prog 138 0 [] nid = some (.nil0, .non) := bsT0 sle138 zo137
theorem bs138 : ∀ (parts : List (Nat × AV)) (nid : Nat), opBuildSlice Tryz.prog 138 1 parts nid = bsO 137 8 (.agg [(.int .u8 0), (.int .u8 0), (.int .u8 0), (.int .u8 0), (.int .u8 0), (.int .u8 0), (.int .u8 0), (.int .u8 0)]) 1 parts nid := bsT sle138 zo137 cel137 zr137 rfl rfl rfl
theorem ms138 : ∀ (k k' : IntKind) (n m : Int) (nid : Nat), opMakeSlice Tryz.prog 138 (.int k n) (.int k' m) nid = msO 137 8 8 (.agg [(.int .u8 0), (.int .u8 0), (.int .u8 0), (.int .u8 0), (.int .u8 0), (.int .u8 0), (.int .u8 0), (.int .u8 0)]) n m nid := msT sle138 zo137 cel137 by137 zr137 rfl rfl
theorem fo140x0 : fieldTO Tryz.prog 140 0 = some (3, 0) := by kernel_rfl
theorem fp140x0 : ∀ (id tot i off : Nat), opFieldAddr Tryz.prog 140 (.ptr id tot i off) 0 = some (.ptr id tot i (off + 0)) := fpT fo140x0 (by kernel_rfl)
theorem fc140x0 : ∀ (v : AV), opFieldAddr Tryz.prog 140 (.cptr v) 0 = fcO false (partA Tryz.prog 3 v.cells 0) := fcT fo140x0 (by kernel_rfl) (by kernel_rfl)
theorem fg140x0 : ∀ (xs : List AV), opField Tryz.prog 140 (.agg xs) 0 = partA Tryz.prog 3 xs 0 := fgT fo140x0
theorem fo140x1 : fieldTO Tryz.prog 140 1 = some (3, 1) := by kernel_rfl
theorem fp140x1 : ∀ (id tot i off : Nat), opFieldAddr Tryz.prog 140 (.ptr id tot i off) 1 = some (.ptr id tot i (off + 1)) := fpT fo140x1 (by kernel_rfl)
theorem fc140x1 : ∀ (v : AV), opFieldAddr Tryz.prog 140 (.cptr v) 1 = fcO false (partA Tryz.prog 3 v.cells 1) := fcT fo140x1 (by kernel_rfl) (by kernel_rfl)
theorem fg140x1 : ∀ (xs : List AV), opField Tryz.prog 140 (.agg xs) 1 = partA Tryz.prog 3 xs 1 := fgT fo140x1
theorem fo140x2 : fieldTO Tryz.prog 140 2 = some (138, 2) := by kernel_rfl
theorem fp140x2 : ∀ (id tot i off : Nat), opFieldAddr Tryz.prog 140 (.ptr id tot i off) 2 = some (.ptr id tot i (off + 2)) := fpT fo140x2 (by kernel_rfl)
theorem fc140x2 : ∀ (v : AV), opFieldAddr Tryz.prog 140 (.cptr v) 2 = fcO false (partA Tryz.prog 138 v.cells 2) := fcT fo140x2 (by kernel_rfl) (by kernel_rfl)
theorem fg140x2 : ∀ (xs : List AV), opField Tryz.prog 140 (.agg xs) 2 = partA Tryz.prog 138 xs 2 := fgT fo140x2
theorem bd140 : ∀ parts : List (Nat × AV), opBuild Tryz.prog 140 parts = bdO [(0, 1), (1, 1), (2, 1)] [(.int .i64 0), (.int .i64 0), .nil0] parts := bdT (by kernel_rfl) zr140
theorem mixed : Tryz.prog.follows .mixedOrders = true := by kernel_rfl
theorem ty3 : type_of% pa3 ∧ type_of% lv3 ∧ type_of% st3 ∧ type_of% zr3 := ⟨pa3, lv3, st3, zr3⟩
theorem ty4 : type_of% pa4 ∧ type_of% lv4 ∧ type_of% st4 ∧ type_of% zr4 ∧ type_of% ib4 := ⟨pa4, lv4, st4, zr4, ib4⟩
theorem ty5 : type_of% pa5 ∧ type_of% lv5 ∧ type_of% st5 ∧ type_of% zr5 := ⟨pa5, lv5, st5, zr5⟩
theorem ty23 : type_of% pa23 ∧ type_of% lv23 ∧ type_of% st23 ∧ type_of% zr23 ∧ type_of% hi23 ∧ type_of% ln23 ∧ type_of% lz23 ∧ type_of% ls23 ∧ type_of% ia23 ∧ type_of% iz23 ∧ type_of% is23 ∧ type_of% ap23 ∧ type_of% bz23 ∧ type_of% bs23 ∧ type_of% ms23 := ⟨pa23, lv23, st23, zr23, hi23, ln23, lz23, ls23, ia23, iz23, is23, ap23, bz23, bs23, ms23⟩
theorem ty33 : type_of% pa33 ∧ type_of% lv33 ∧ type_of% st33 ∧ type_of% zr33 := ⟨pa33, lv33, st33, zr33⟩
theorem ty46 : type_of% pa46 ∧ type_of% lv46 ∧ type_of% st46 ∧ type_of% zr46 ∧ type_of% hi46 ∧ type_of% ln46 ∧ type_of% lz46 ∧ type_of% ls46 ∧ type_of% ia46 ∧ type_of% iz46 ∧ type_of% is46 ∧ type_of% ap46 ∧ type_of% bz46 ∧ type_of% bs46 ∧ type_of% ms46 := ⟨pa46, lv46, st46, zr46, hi46, ln46, lz46, ls46, ia46, iz46, is46, ap46, bz46, bs46, ms46⟩
theorem ty47 : type_of% pa47 ∧ type_of% lv47 ∧ type_of% st47 ∧ type_of% zr47 ∧ type_of% hi47 ∧ type_of% ln47 ∧ type_of% lz47 ∧ type_of% ls47 ∧ type_of% ia47 ∧ type_of% iz47 ∧ type_of% is47 ∧ type_of% ap47 ∧ type_of% bz47 ∧ type_of% bs47 ∧ type_of% ms47 := ⟨pa47, lv47, st47, zr47, hi47, ln47, lz47, ls47, ia47, iz47, is47, ap47, bz47, bs47, ms47⟩
theorem ty49 : type_of% pa49 ∧ type_of% lv49 ∧ type_of% st49 ∧ type_of% zr49 ∧ type_of% fp49x0 ∧ type_of% fc49x0 ∧ type_of% fg49x0 ∧ type_of% fp49x1 ∧ type_of% fc49x1 ∧ type_of% fg49x1 ∧ type_of% fp49x2 ∧ type_of% fc49x2 ∧ type_of% fg49x2 ∧ type_of% fp49x3 ∧ type_of% fc49x3 ∧ type_of% fg49x3 ∧ type_of% bd49 := ⟨pa49, lv49, st49, zr49, fp49x0, fc49x0, fg49x0, fp49x1, fc49x1, fg49x1, fp49x2, fc49x2, fg49x2, fp49x3, fc49x3, fg49x3, bd49⟩
theorem ty50 : type_of% pa50 ∧ type_of% lv50 ∧ type_of% st50 ∧ type_of% zr50 ∧ type_of% hi50 ∧ type_of% ln50 ∧ type_of% lz50 ∧ type_of% ls50 ∧ type_of% ia50 ∧ type_of% iz50 ∧ type_of% is50 ∧ type_of% ap50 ∧ type_of% bz50 ∧ type_of% bs50 ∧ type_of% ms50 := ⟨pa50, lv50, st50, zr50, hi50, ln50, lz50, ls50, ia50, iz50, is50, ap50, bz50, bs50, ms50⟩
theorem ty52 : type_of% pa52 ∧ type_of% lv52 ∧ type_of% st52 ∧ type_of% zr52 ∧ type_of% fp52x0 ∧ type_of% fc52x0 ∧ type_of% fg52x0 ∧ type_of% fp52x1 ∧ type_of% fc52x1 ∧ type_of% fg52x1 ∧ type_of% fp52x2 ∧ type_of% fc52x2 ∧ type_of% fg52x2 ∧ type_of% fp52x3 ∧ type_of% fc52x3 ∧ type_of% fg52x3 ∧ type_of% fp52x4 ∧ type_of% fc52x4 ∧ type_of% fg52x4 ∧ type_of% bd52 := ⟨pa52, lv52, st52, zr52, fp52x0, fc52x0, fg52x0, fp52x1, fc52x1, fg52x1, fp52x2, fc52x2, fg52x2, fp52x3, fc52x3, fg52x3, fp52x4, fc52x4, fg52x4, bd52⟩
theorem ty54 : type_of% pa54 ∧ type_of% lv54 ∧ type_of% st54 ∧ type_of% zr54 := ⟨pa54, lv54, st54, zr54⟩
theorem ty69 : type_of% pa69 ∧ type_of% lv69 ∧ type_of% st69 ∧ type_of% zr69 ∧ type_of% hi69 ∧ type_of% ln69 ∧ type_of% lz69 ∧ type_of% ls69 ∧ type_of% ia69 ∧ type_of% iz69 ∧ type_of% is69 ∧ type_of% ap69 ∧ type_of% bz69 ∧ type_of% bs69 ∧ type_of% ms69 := ⟨pa69, lv69, st69, zr69, hi69, ln69, lz69, ls69, ia69, iz69, is69, ap69, bz69, bs69, ms69⟩
theorem ty70 : type_of% pa70 ∧ type_of% lv70 ∧ type_of% st70 ∧ type_of% zr70 ∧ type_of% hi70 ∧ type_of% ln70 ∧ type_of% lz70 ∧ type_of% ls70 ∧ type_of% ia70 ∧ type_of% iz70 ∧ type_of% is70 ∧ type_of% ap70 ∧ type_of% bz70 ∧ type_of% bs70 ∧ type_of% ms70 := ⟨pa70, lv70, st70, zr70, hi70, ln70, lz70, ls70, ia70, iz70, is70, ap70, bz70, bs70, ms70⟩
theorem ty135 : type_of% pa135 ∧ type_of% lv135 ∧ type_of% st135 ∧ type_of% zr135 := ⟨pa135, lv135, st135, zr135⟩
theorem ty137 : type_of% pa137 ∧ type_of% lv137 ∧ type_of% st137 ∧ type_of% zr137 := ⟨pa137, lv137, st137, zr137⟩
theorem ty138 : type_of% pa138 ∧ type_of% lv138 ∧ type_of% st138 ∧ type_of% zr138 ∧ type_of% hi138 ∧ type_of% ln138 ∧ type_of% lz138 ∧ type_of% ls138 ∧ type_of% ia138 ∧ type_of% iz138 ∧ type_of% is138 ∧ type_of% ap138 ∧ type_of% bz138 ∧ type_of% bs138 ∧ type_of% ms138 := ⟨pa138, lv138, st138, zr138, hi138, ln138, lz138, ls138, ia138, iz138, is138, ap138, bz138, bs138, ms138⟩
theorem ty140 : type_of% pa140 ∧ type_of% lv140 ∧ type_of% st140 ∧ type_of% zr140 ∧ type_of% fp140x0 ∧ type_of% fc140x0 ∧ type_of% fg140x0 ∧ type_of% fp140x1 ∧ type_of% fc140x1 ∧ type_of% fg140x1 ∧ type_of% fp140x2 ∧ type_of% fc140x2 ∧ type_of% fg140x2 ∧ type_of% bd140 := ⟨pa140, lv140, st140, zr140, fp140x0, fc140x0, fg140x0, fp140x1, fc140x1, fg140x1, fp140x2, fc140x2, fg140x2, bd140⟩
theorem ty145 : type_of% pa145 ∧ type_of% lv145 ∧ type_of% st145 ∧ type_of% zr145 := ⟨pa145, lv145, st145, zr145⟩
theorem ty264 : type_of% pa264 ∧ type_of% lv264 ∧ type_of% st264 ∧ type_of% zr264 := ⟨pa264, lv264, st264, zr264⟩
theorem TY : ((((type_of% ty3) ∧ (type_of% ty4)) ∧ ((type_of% ty5) ∧ (type_of% ty23))) ∧ (((type_of% ty33) ∧ (type_of% ty46)) ∧ ((type_of% ty47) ∧ ((type_of% ty49) ∧ (type_of% ty50))))) ∧ ((((type_of% ty52) ∧ (type_of% ty54)) ∧ ((type_of% ty69) ∧ ((type_of% ty70) ∧ (type_of% ty135)))) ∧ (((type_of% ty137) ∧ (type_of% ty138)) ∧ ((type_of% ty140) ∧ ((type_of% ty145) ∧ (type_of% ty264))))) := ⟨⟨⟨⟨ty3, ty4⟩, ⟨ty5, ty23⟩⟩, ⟨⟨ty33, ty46⟩, ⟨ty47, ⟨ty49, ty50⟩⟩⟩⟩, ⟨⟨⟨ty52, ty54⟩, ⟨ty69, ⟨ty70, ty135⟩⟩⟩, ⟨⟨ty137, ty138⟩, ⟨ty140, ⟨ty145, ty264⟩⟩⟩⟩⟩
end Go.Proofs.YtlmjpgmaefokdaaGreat
end

section
set_option linter.unusedSimpArgs false
set_option linter.unusedVariables false
namespace Go.Proofs.YtlmjpgmaefokdaaGreat
open Go.Proofs
abbrev I (i : Int) : AV := .int .i64 i
abbrev B (b : Bool) : AV := .bool b

structure Sec where
  (a b c d e f g h : Int)
  deriving DecidableEq
def Sec.av (s : Sec) : AV := .agg [.int .u8 s.a, .int .u8 s.b, .int .u8 s.c, .int .u8 s.d, .int .u8 s.e, .int .u8 s.f, .int .u8 s.g, .int .u8 s.h]
theorem sec_cells (s : Sec) : s.av.cells.length = 8 := rfl
theorem sec_okc (s : Sec) : s.av.okc = true := rfl
theorem sec_isAgg (s : Sec) : s.av.isAgg = true := rfl
theorem sec_idf (s : Sec) : Idf s.av := by simp only [Sec.av, IDF, and_tt]
theorem sec_idf' (s : Sec) : Idf s.av = True := eq_true (sec_idf s)
theorem sec_ld (s : Sec) : loadV Tryz.prog 137 s.av 0 = some s.av := by simp only [Sec.av, ty137]; rfl
def sec0 : Sec := ⟨0, 0, 0, 0, 0, 0, 0, 0⟩
theorem sec_eq (x y : Sec) : (eqT Tryz.prog 10 137 x.av y.av) = some (decide (x = y)) := by
  have h : (eqT Tryz.prog 10 137 x.av y.av) = if (x.a == y.a) = true then (if (x.b == y.b) = true then (if (x.c == y.c) = true then (if (x.d == y.d) = true then (if (x.e == y.e) = true then (if (x.f == y.f) = true then (if (x.g == y.g) = true then (if (x.h == y.h) = true then some true else some false) else some false) else some false) else some false) else some false) else some false) else some false) else some false := by kernel_rfl
  rw [h]
  cases x; cases y
  simp only [beq_iff_eq, Sec.mk.injEq]
  repeat' split
  all_goals simp_all
theorem sec_guard : Tryz.prog.eqGuardType Tryz.prog.depth 137 = false := by kernel_rfl
theorem sec_neq (x y : Sec) : opBinAny Tryz.prog .neq 137 x.av y.av = some (.bool (!decide (x = y))) := by
  have := sec_eq x y
  unfold Sec.av at this ⊢
  simp only [opBinAny, opBin, opEq, sec_guard, if_true, this, Option.map_some]
theorem sec_eql (x y : Sec) : opBinAny Tryz.prog .eql 137 x.av y.av = some (.bool (decide (x = y))) := by
  have := sec_eq x y
  unfold Sec.av at this ⊢
  simp only [opBinAny, opBin, opEq, sec_guard, if_true, this, Option.map_some]

structure Wr where
  (vol start : Int)
  data : List Sec
  deriving DecidableEq
def Wr.av (w : Wr) : AV := .agg [I w.vol, I w.start, .lst (w.data.map Sec.av)]
structure Cyc where
  (base num time : Int)
  pos : List Int
  ws : List Wr
  deriving DecidableEq
def Cyc.av (c : Cyc) : AV := .agg [I c.base, I c.num, I c.time, .lst (c.pos.map I), .lst (c.ws.map Wr.av)]
structure Fan where
  limit : Int
  kept : List Cyc
  app : List Int
  lost : List Bool
  deriving DecidableEq
def Fan.av (f : Fan) : AV := .agg [I f.limit, .lst (f.kept.map Cyc.av), .lst (f.app.map I), .lst (f.lost.map B)]

theorem wr_idf (w : Wr) : Idf w.av = True := eq_true (by simp only [Wr.av, IDF, sec_idf', and_tt, implies_true])
theorem cyc_idf (c : Cyc) : Idf c.av = True := eq_true (by simp only [Cyc.av, IDF, wr_idf, and_tt, implies_true])
theorem fan_idf (f : Fan) : Idf f.av = True := eq_true (by simp only [Fan.av, IDF, cyc_idf, and_tt, implies_true])
theorem wr_cells (w : Wr) : w.av.cells.length = 3 := rfl
theorem cyc_cells (c : Cyc) : c.av.cells.length = 5 := rfl
theorem fan_cells (f : Fan) : f.av.cells.length = 4 := rfl
theorem wr_okc (w : Wr) : w.av.okc = true := rfl
theorem cyc_okc (c : Cyc) : c.av.okc = true := rfl
theorem fan_okc (f : Fan) : f.av.okc = true := rfl
theorem wr_isAgg (w : Wr) : w.av.isAgg = true := rfl
theorem cyc_isAgg (c : Cyc) : c.av.isAgg = true := rfl
theorem fan_isAgg (f : Fan) : f.av.isAgg = true := rfl
theorem wr_cs (w : Wr) : w.av.cells = [I w.vol, I w.start, .lst (w.data.map Sec.av)] := rfl
theorem cyc_cs (c : Cyc) : c.av.cells = [I c.base, I c.num, I c.time, .lst (c.pos.map I), .lst (c.ws.map Wr.av)] := rfl
theorem fan_cs (f : Fan) : f.av.cells = [I f.limit, .lst (f.kept.map Cyc.av), .lst (f.app.map I), .lst (f.lost.map B)] := rfl
theorem wr_ld (w : Wr) : loadV Tryz.prog 140 w.av 0 = some w.av := by simp only [Wr.av, ty140]; rfl
theorem cyc_ld (c : Cyc) : loadV Tryz.prog 52 c.av 0 = some c.av := by simp only [Cyc.av, ty52]; rfl
theorem fan_ld (f : Fan) : loadV Tryz.prog 49 f.av 0 = some f.av := by simp only [Fan.av, ty49]; rfl

def Wr.ok (w : Wr) : Prop := w.data.length < 4611686018427387904
def Cyc.ok (c : Cyc) : Prop := c.pos.length < 4611686018427387904 ∧ c.ws.length < 4611686018427387904 ∧ ∀ w ∈ c.ws, w.ok
def Fan.ok (f : Fan) : Prop := f.kept.length < 4611686018427387904 ∧ f.app.length < 4611686018427387904 ∧ f.lost.length < 4611686018427387904 ∧ ∀ c ∈ f.kept, c.ok

theorem at_map {α : Type} {f : α → AV} {xs : List α} {i : Nat} (h : i < xs.length) : (xs.map f)[i]? = some (f xs[i]) := by simp [h]
theorem take_step {α : Type} {xs ys : List α} {i : Nat} (h1 : i < xs.length) (h2 : i < ys.length) (h : xs.take i = ys.take i) (he : xs[i] = ys[i]) : xs.take (i + 1) = ys.take (i + 1) := by
  rw [List.take_add_one, List.take_add_one, h, List.getElem?_eq_getElem h1, List.getElem?_eq_getElem h2, he]
theorem EN : ((((type_of% @sec_cells) ∧ (type_of% @sec_okc)) ∧ ((type_of% @sec_isAgg) ∧ (type_of% @sec_ld))) ∧ (((type_of% @wr_cells) ∧ (type_of% @wr_okc)) ∧ ((type_of% @wr_isAgg) ∧ (type_of% @wr_ld)))) ∧ ((((type_of% @cyc_cells) ∧ (type_of% @cyc_okc)) ∧ ((type_of% @cyc_isAgg) ∧ (type_of% @cyc_ld))) ∧ (((type_of% @fan_cells) ∧ (type_of% @fan_okc)) ∧ ((type_of% @fan_isAgg) ∧ (type_of% @fan_ld)))) := ⟨⟨⟨⟨@sec_cells, @sec_okc⟩, ⟨@sec_isAgg, @sec_ld⟩⟩, ⟨⟨@wr_cells, @wr_okc⟩, ⟨@wr_isAgg, @wr_ld⟩⟩⟩, ⟨⟨⟨@cyc_cells, @cyc_okc⟩, ⟨@cyc_isAgg, @cyc_ld⟩⟩, ⟨⟨@fan_cells, @fan_okc⟩, ⟨@fan_isAgg, @fan_ld⟩⟩⟩⟩
end Go.Proofs.YtlmjpgmaefokdaaGreat
end

section
set_option linter.unusedSimpArgs false
set_option linter.unusedVariables false
namespace Go.Proofs.YtlmjpgmaefokdaaGreat
open Go.Proofs
theorem list3 {α : Type} {l : List α} (h : l.length = 3) : ∃ c0 c1 c2, l = [c0, c1, c2] := by
  rcases l with _ | ⟨c0, l⟩
  · simp at h
  rcases l with _ | ⟨c1, l⟩
  · simp at h
  rcases l with _ | ⟨c2, l⟩
  · simp at h
  rcases l with _ | ⟨c3, l⟩
  · exact ⟨c0, c1, c2, rfl⟩
  · simp at h
theorem list4 {α : Type} {l : List α} (h : l.length = 4) : ∃ c0 c1 c2 c3, l = [c0, c1, c2, c3] := by
  rcases l with _ | ⟨c0, l⟩
  · simp at h
  rcases l with _ | ⟨c1, l⟩
  · simp at h
  rcases l with _ | ⟨c2, l⟩
  · simp at h
  rcases l with _ | ⟨c3, l⟩
  · simp at h
  rcases l with _ | ⟨c4, l⟩
  · exact ⟨c0, c1, c2, c3, rfl⟩
  · simp at h
theorem list5 {α : Type} {l : List α} (h : l.length = 5) : ∃ c0 c1 c2 c3 c4, l = [c0, c1, c2, c3, c4] := by
  rcases l with _ | ⟨c0, l⟩
  · simp at h
  rcases l with _ | ⟨c1, l⟩
  · simp at h
  rcases l with _ | ⟨c2, l⟩
  · simp at h
  rcases l with _ | ⟨c3, l⟩
  · simp at h
  rcases l with _ | ⟨c4, l⟩
  · simp at h
  rcases l with _ | ⟨c5, l⟩
  · exact ⟨c0, c1, c2, c3, c4, rfl⟩
  · simp at h
theorem list8 {α : Type} {l : List α} (h : l.length = 8) : ∃ c0 c1 c2 c3 c4 c5 c6 c7, l = [c0, c1, c2, c3, c4, c5, c6, c7] := by
  rcases l with _ | ⟨c0, l⟩
  · simp at h
  rcases l with _ | ⟨c1, l⟩
  · simp at h
  rcases l with _ | ⟨c2, l⟩
  · simp at h
  rcases l with _ | ⟨c3, l⟩
  · simp at h
  rcases l with _ | ⟨c4, l⟩
  · simp at h
  rcases l with _ | ⟨c5, l⟩
  · simp at h
  rcases l with _ | ⟨c6, l⟩
  · simp at h
  rcases l with _ | ⟨c7, l⟩
  · simp at h
  rcases l with _ | ⟨c8, l⟩
  · exact ⟨c0, c1, c2, c3, c4, c5, c6, c7, rfl⟩
  · simp at h
theorem take1 {α : Type} {cs : List α} {i : Nat} {c : α} (h : cs[i]? = some c) : (cs.drop i).take 1 = [c] := by
  obtain ⟨h1, rfl⟩ := List.getElem?_eq_some_iff.1 h
  rw [List.drop_eq_getElem_cons h1]
  rfl
theorem dec_sec : Dec Tryz.prog 137 Sec.av (fun _ => True) := by
  intro H enc w sp fuel cs x h hw
  obtain ⟨hl, he⟩ := array_elems Tryz.underlying137 h hw
  rw [cel137] at hl
  have g : ∀ i, i < 8 → ∀ c, cs[i]? = some c → ∃ n, VRelL (inX w) w [.int .u8 n] [c] ∧ c.oneCell' = true := by
    intro i hi c hc
    obtain ⟨n, y, hy, hyw⟩ := he i hi
    rw [cel5, Nat.mul_one, take1 hc] at hy
    obtain ⟨a, _, h1, h2⟩ := dec_int Tryz.underlying5 H enc w sp n _ _ hy hyw
    exact ⟨a, h1, h2 c (by simp)⟩
  obtain ⟨c0, c1, c2, c3, c4, c5, c6, c7, rfl⟩ := list8 hl
  obtain ⟨n0, r0, o0⟩ := g 0 (by omega) c0 rfl
  obtain ⟨n1, r1, o1⟩ := g 1 (by omega) c1 rfl
  obtain ⟨n2, r2, o2⟩ := g 2 (by omega) c2 rfl
  obtain ⟨n3, r3, o3⟩ := g 3 (by omega) c3 rfl
  obtain ⟨n4, r4, o4⟩ := g 4 (by omega) c4 rfl
  obtain ⟨n5, r5, o5⟩ := g 5 (by omega) c5 rfl
  obtain ⟨n6, r6, o6⟩ := g 6 (by omega) c6 rfl
  obtain ⟨n7, r7, o7⟩ := g 7 (by omega) c7 rfl
  refine ⟨⟨n0, n1, n2, n3, n4, n5, n6, n7⟩, trivial, r0.cons1 (r1.cons1 (r2.cons1 (r3.cons1 (r4.cons1 (r5.cons1 (r6.cons1 r7)))))), ?_⟩
  intro u hu
  simp only [List.mem_cons, List.not_mem_nil, or_false] at hu
  rcases hu with rfl | rfl | rfl | rfl | rfl | rfl | rfl | rfl <;> assumption
theorem len_of {n b : Nat} (h : n * b ≤ reachBytes) (hb : (b == 0) = false) : n < 4611686018427387904 := by
  have hb' : b ≠ 0 := by simpa using hb
  have h1 : n ≤ n * b := Nat.le_mul_of_pos_right n (by omega)
  have h2 : reachBytes < 4611686018427387904 := by decide
  omega
theorem dec_list {t e : TypeId} {α : Type} {f : α → AV} {good : α → Prop} (hb : (Tryz.prog.bytesOf e == 0) = false) (h : Dec Tryz.prog t (fun xs : List α => .lst (xs.map f)) (fun xs => xs.length * Tryz.prog.bytesOf e ≤ reachBytes ∧ ∀ a ∈ xs, good a)) : Dec Tryz.prog t (fun xs : List α => .lst (xs.map f)) (fun xs => xs.length < 4611686018427387904 ∧ ∀ a ∈ xs, good a) :=
  fun H enc w sp fuel cs x hx hw => by
    obtain ⟨a, h1, h2⟩ := h H enc w sp fuel cs x hx hw
    exact ⟨a, ⟨len_of h1.1 hb, h1.2⟩, h2⟩
theorem dec_ints : Dec Tryz.prog 23 (fun xs : List Int => .lst (xs.map I)) (fun xs => xs.length < 4611686018427387904 ∧ ∀ a ∈ xs, True) :=
  dec_list (e := 3) (by kernel_rfl) (dec_slice Tryz.underlying23 (dec_int Tryz.underlying3) (fun _ => by rw [cel3]; rfl) (fun _ => rfl) (by rw [cel3]; rfl))
theorem dec_bools : Dec Tryz.prog 47 (fun xs : List Bool => .lst (xs.map B)) (fun xs => xs.length < 4611686018427387904 ∧ ∀ a ∈ xs, True) :=
  dec_list (e := 4) (by kernel_rfl) (dec_slice Tryz.underlying47 (dec_bool Tryz.underlying4) (fun _ => by rw [cel4]; rfl) (fun _ => rfl) (by rw [cel4]; rfl))
theorem dec_secs : Dec Tryz.prog 138 (fun xs : List Sec => .lst (xs.map Sec.av)) (fun xs => xs.length < 4611686018427387904 ∧ ∀ a ∈ xs, True) :=
  dec_list (e := 137) (by kernel_rfl) (dec_slice Tryz.underlying138 dec_sec (fun _ => by rw [cel137]; rfl) (fun _ => rfl) (by rw [cel137]; rfl))
theorem dec_wr : Dec Tryz.prog 140 Wr.av Wr.ok := by
  intro H enc w sp fuel cs x h hw
  obtain ⟨hl, hf⟩ := struct_fields Tryz.underlying140 h hw
  rw [cel140] at hl
  obtain ⟨c0, c1, c2, rfl⟩ := list3 hl
  obtain ⟨n0, y0, h0, w0⟩ := hf 0 3 0 rfl
  obtain ⟨n1, y1, h1, w1⟩ := hf 1 3 1 rfl
  obtain ⟨n2, y2, h2, w2⟩ := hf 2 138 2 rfl
  simp only [cel3, cel138, List.drop_zero, List.drop_succ_cons, List.take_succ_cons, List.take_zero] at h0 h1 h2
  obtain ⟨a0, g0, r0, o0⟩ := dec_int Tryz.underlying3 H enc w sp n0 _ _ h0 w0
  obtain ⟨a1, g1, r1, o1⟩ := dec_int Tryz.underlying3 H enc w sp n1 _ _ h1 w1
  obtain ⟨a2, g2, r2, o2⟩ := dec_secs H enc w sp n2 _ _ h2 w2
  refine ⟨⟨a0, a1, a2⟩, g2.1, r0.cons1 (r1.cons1 r2), ?_⟩
  intro u hu
  simp only [List.mem_cons, List.not_mem_nil, or_false] at hu
  rcases hu with rfl | rfl | rfl
  · exact o0 _ (by simp)
  · exact o1 _ (by simp)
  · exact o2 _ (by simp)
theorem dec_wrs : Dec Tryz.prog 50 (fun xs : List Wr => .lst (xs.map Wr.av)) (fun xs => xs.length < 4611686018427387904 ∧ ∀ a ∈ xs, a.ok) :=
  dec_list (e := 140) (by kernel_rfl) (dec_slice Tryz.underlying50 dec_wr (fun _ => by rw [cel140]; rfl) (fun _ => rfl) (by rw [cel140]; rfl))
theorem dec_cyc : Dec Tryz.prog 52 Cyc.av Cyc.ok := by
  intro H enc w sp fuel cs x h hw
  obtain ⟨hl, hf⟩ := struct_fields Tryz.underlying52 h hw
  rw [cel52] at hl
  obtain ⟨c0, c1, c2, c3, c4, rfl⟩ := list5 hl
  obtain ⟨n0, y0, h0, w0⟩ := hf 0 3 0 rfl
  obtain ⟨n1, y1, h1, w1⟩ := hf 1 3 1 rfl
  obtain ⟨n2, y2, h2, w2⟩ := hf 2 3 2 rfl
  obtain ⟨n3, y3, h3, w3⟩ := hf 3 23 3 rfl
  obtain ⟨n4, y4, h4, w4⟩ := hf 4 50 4 rfl
  simp only [cel3, cel23, cel50, List.drop_zero, List.drop_succ_cons, List.take_succ_cons, List.take_zero] at h0 h1 h2 h3 h4
  obtain ⟨a0, g0, r0, o0⟩ := dec_int Tryz.underlying3 H enc w sp n0 _ _ h0 w0
  obtain ⟨a1, g1, r1, o1⟩ := dec_int Tryz.underlying3 H enc w sp n1 _ _ h1 w1
  obtain ⟨a2, g2, r2, o2⟩ := dec_int Tryz.underlying3 H enc w sp n2 _ _ h2 w2
  obtain ⟨a3, g3, r3, o3⟩ := dec_ints H enc w sp n3 _ _ h3 w3
  obtain ⟨a4, g4, r4, o4⟩ := dec_wrs H enc w sp n4 _ _ h4 w4
  refine ⟨⟨a0, a1, a2, a3, a4⟩, ⟨g3.1, g4.1, g4.2⟩, r0.cons1 (r1.cons1 (r2.cons1 (r3.cons1 r4))), ?_⟩
  intro u hu
  simp only [List.mem_cons, List.not_mem_nil, or_false] at hu
  rcases hu with rfl | rfl | rfl | rfl | rfl
  · exact o0 _ (by simp)
  · exact o1 _ (by simp)
  · exact o2 _ (by simp)
  · exact o3 _ (by simp)
  · exact o4 _ (by simp)
theorem dec_cycs : Dec Tryz.prog 46 (fun xs : List Cyc => .lst (xs.map Cyc.av)) (fun xs => xs.length < 4611686018427387904 ∧ ∀ a ∈ xs, a.ok) :=
  dec_list (e := 52) (by kernel_rfl) (dec_slice Tryz.underlying46 dec_cyc (fun _ => by rw [cel52]; rfl) (fun _ => rfl) (by rw [cel52]; rfl))
theorem dec_fan : Dec Tryz.prog 49 Fan.av Fan.ok := by
  intro H enc w sp fuel cs x h hw
  obtain ⟨hl, hf⟩ := struct_fields Tryz.underlying49 h hw
  rw [cel49] at hl
  obtain ⟨c0, c1, c2, c3, rfl⟩ := list4 hl
  obtain ⟨n0, y0, h0, w0⟩ := hf 0 3 0 rfl
  obtain ⟨n1, y1, h1, w1⟩ := hf 1 46 1 rfl
  obtain ⟨n2, y2, h2, w2⟩ := hf 2 23 2 rfl
  obtain ⟨n3, y3, h3, w3⟩ := hf 3 47 3 rfl
  simp only [cel3, cel23, cel47, cel46, List.drop_zero, List.drop_succ_cons, List.take_succ_cons, List.take_zero] at h0 h1 h2 h3
  obtain ⟨a0, g0, r0, o0⟩ := dec_int Tryz.underlying3 H enc w sp n0 _ _ h0 w0
  obtain ⟨a1, g1, r1, o1⟩ := dec_cycs H enc w sp n1 _ _ h1 w1
  obtain ⟨a2, g2, r2, o2⟩ := dec_ints H enc w sp n2 _ _ h2 w2
  obtain ⟨a3, g3, r3, o3⟩ := dec_bools H enc w sp n3 _ _ h3 w3
  refine ⟨⟨a0, a1, a2, a3⟩, ⟨g1.1, g2.1, g3.1, g1.2⟩, r0.cons1 (r1.cons1 (r2.cons1 r3)), ?_⟩
  intro u hu
  simp only [List.mem_cons, List.not_mem_nil, or_false] at hu
  rcases hu with rfl | rfl | rfl | rfl
  · exact o0 _ (by simp)
  · exact o1 _ (by simp)
  · exact o2 _ (by simp)
  · exact o3 _ (by simp)
end Go.Proofs.YtlmjpgmaefokdaaGreat
end

section
set_option linter.unusedSimpArgs false
set_option linter.unusedVariables false
namespace Go.Proofs.YtlmjpgmaefokdaaGreat
open Go.Proofs
set_option maxRecDepth 10000
theorem c91 (xs ys : List Int) (hl : xs.length < 4611686018427387904) : Pu Tryz.prog (.fn (.func 91) [] []) [.lst (xs.map I), .lst (ys.map I)] (B (decide (xs = ys))) := by
  refine pu_func Tryz.func91 rfl (by kernel_rfl) (by show _ ≤ 26; simp only [List.length_append, List.length_cons, List.length_nil]; decide) (by simp only [IDF, and_tt, implies_true]) (by simp only [IDF, and_tt, implies_true]) (by simp only [IDF, and_tt, implies_true]) ?_
  rw [Tryz.ntmps91]
  refine wpT_seq ?_
  refine wpT_region (by kernel_rfl) (fun K hK => ?_)
  simp only [↓SP, SX, SW, TY, EN, sv_w, ↓reduceIte, reduceCtorEq, Nat.reduceEqDiff, Nat.reduceAdd, Nat.reduceLeDiff, Nat.reduceLT]
  refine hK _ _ ?_
  clear hK K
  refine wpT_seq ?_
  refine wpT_seq ?_
  refine wpT_region (by kernel_rfl) (fun K hK => ?_)
  simp only [↓SP, SX, SW, TY, EN, sv_w, ↓reduceIte, reduceCtorEq, Nat.reduceEqDiff, Nat.reduceAdd, Nat.reduceLeDiff, Nat.reduceLT]
  refine hK _ _ ?_
  clear hK K
  refine wpT_if (by rfl) (fun hc10 => ?_) (fun hc10 => ?_)
  · skip
    have p10 := hc10
    try simp only [decide_eq_true_eq, decide_eq_false_iff_not, beq_iff_eq, bne_iff_ne, beq_eq_false_iff_ne, bne_eq_false_iff_eq, Bool.not_eq_true', Bool.not_eq_false'] at p10
    have hne : xs ≠ ys := fun e => by subst e; simp at p10
    refine wpT_seq ?_
    refine wpT_region (by kernel_rfl) (fun K hK => ?_)
    simp only [↓SP, SX, SW, TY, EN, sv_w, ↓reduceIte, reduceCtorEq, Nat.reduceEqDiff, Nat.reduceAdd, Nat.reduceLeDiff, Nat.reduceLT, hc10]
    refine hK _ _ ?_
    clear hK K
    refine wpT_ret ⟨.inr rfl, ?_⟩
    show optK (resA _ _ _ [.tmp 4]) _
    simp only [SR, Option.map_some, Option.bind_some, ↓SP, SX, SW, TY, EN, sv_w, ↓reduceIte, reduceCtorEq, Nat.reduceEqDiff, Nat.reduceAdd, Nat.reduceLeDiff, Nat.reduceLT, hc10]
    refine Lend.eq ?_
    first
      | simp only [hne, decide_false]
      | simp only [he, decide_true]
  · skip
    have p10 := hc10
    try simp only [decide_eq_true_eq, decide_eq_false_iff_not, beq_iff_eq, bne_iff_ne, beq_eq_false_iff_ne, bne_eq_false_iff_eq, Bool.not_eq_true', Bool.not_eq_false'] at p10
    have hlen : xs.length = ys.length := by omega
    refine wpT_skip ?_
    refine wpT_seq ?_
    refine wpT_seq ?_
    refine wpT_region (by kernel_rfl) (fun K hK => ?_)
    simp only [↓SP, SX, SW, TY, EN, sv_w, ↓reduceIte, reduceCtorEq, Nat.reduceEqDiff, Nat.reduceAdd, Nat.reduceLeDiff, Nat.reduceLT, hc10]
    refine hK _ _ ?_
    clear hK K
    refine wpT_block ?_
    refine wpT_loop ?_
    refine wpT_keep0 ?_
    refine wpT_ind (fun (i : Nat) tm' h' => (∃ m, h' = Hp.of [] m) ∧ tm' 0 = .lst (xs.map I) ∧ tm' 1 = .lst (ys.map I) ∧ tm' 5 = I i ∧ i ≤ xs.length ∧ xs.take i = ys.take i) (fun i => xs.length - i) ?_ 0 ⟨⟨_, rfl⟩, rfl, rfl, rfl, Nat.zero_le _, rfl⟩
    rintro i tm' _ ⟨⟨m, rfl⟩, e0, e1, e5, hi, hx⟩ IH
    refine wpT_inLoop ?_
    refine wpT_seq ?_
    refine wpT_seq ?_
    refine wpT_region (by kernel_rfl) (fun K hK => ?_)
    simp only [↓SP, SX, SW, TY, EN, sv_w, ↓reduceIte, reduceCtorEq, Nat.reduceEqDiff, Nat.reduceAdd, Nat.reduceLeDiff, Nat.reduceLT, e0, e5]
    refine hK _ _ ?_
    clear hK K
    refine wpT_if (by rfl) (fun hc14 => ?_) (fun hc14 => ?_)
    · skip
      have p14 := hc14
      try simp only [decide_eq_true_eq, decide_eq_false_iff_not, beq_iff_eq, bne_iff_ne, beq_eq_false_iff_ne, bne_eq_false_iff_eq, Bool.not_eq_true', Bool.not_eq_false'] at p14
      have hlt : i < xs.length := by omega
      have hlt' : i < ys.length := by omega
      have hg := at_map (f := I) hlt
      have hg' := at_map (f := I) hlt'
      refine wpT_skip ?_
      refine wpT_seq ?_
      refine wpT_block ?_
      refine wpT_seq ?_
      refine wpT_drawn [] mixed (by kernel_rfl) (m := 9) rfl (fun K hK => ?_)
      simp only [↓SP, SX, SW, TY, EN, sv_w, ↓reduceIte, reduceCtorEq, Nat.reduceEqDiff, Nat.reduceAdd, Nat.reduceLeDiff, Nat.reduceLT, e0, e1, e5, hg, hg', hc14]
      refine hK _ _ ?_
      clear hK K
      refine wpT_if (by rfl) (fun hc25 => ?_) (fun hc25 => ?_)
      · skip
        have p25 := hc25
        try simp only [decide_eq_true_eq, decide_eq_false_iff_not, beq_iff_eq, bne_iff_ne, beq_eq_false_iff_ne, bne_eq_false_iff_eq, Bool.not_eq_true', Bool.not_eq_false'] at p25
        have hne : xs ≠ ys := fun e => by subst e; simp at p25
        refine wpT_seq ?_
        refine wpT_region (by kernel_rfl) (fun K hK => ?_)
        simp only [↓SP, SX, SW, TY, EN, sv_w, ↓reduceIte, reduceCtorEq, Nat.reduceEqDiff, Nat.reduceAdd, Nat.reduceLeDiff, Nat.reduceLT, hc14, hc25]
        refine hK _ _ ?_
        clear hK K
        refine wpT_ret ⟨.inr rfl, ?_⟩
        show optK (resA _ _ _ [.tmp 4]) _
        simp only [SR, Option.map_some, Option.bind_some, ↓SP, SX, SW, TY, EN, sv_w, ↓reduceIte, reduceCtorEq, Nat.reduceEqDiff, Nat.reduceAdd, Nat.reduceLeDiff, Nat.reduceLT, hc14, hc25]
        refine Lend.eq ?_
        first
          | simp only [hne, decide_false]
          | simp only [he, decide_true]
      · skip
        have p25 := hc25
        try simp only [decide_eq_true_eq, decide_eq_false_iff_not, beq_iff_eq, bne_iff_ne, beq_eq_false_iff_ne, bne_eq_false_iff_eq, Bool.not_eq_true', Bool.not_eq_false'] at p25
        have hx' := take_step hlt hlt' hx p25
        refine wpT_skip ?_
        refine wpT_inBlock ?_
        refine wpT_region (by kernel_rfl) (fun K hK => ?_)
        simp only [↓SP, SX, SW, TY, EN, sv_w, ↓reduceIte, reduceCtorEq, Nat.reduceEqDiff, Nat.reduceAdd, Nat.reduceLeDiff, Nat.reduceLT, e5, wrap64 (x := (i : Int) + 1) (by omega) (by omega), hc14, hc25]
        refine hK _ _ ?_
        clear hK K
        refine wpT_keep0 ?_
        refine IH (i + 1) _ _ (by omega) ⟨⟨_, rfl⟩, by simp only [↓SP, SX, SW, TY, EN, sv_w, ↓reduceIte, reduceCtorEq, Nat.reduceEqDiff, Nat.reduceAdd, Nat.reduceLeDiff, Nat.reduceLT, e0], by simp only [↓SP, SX, SW, TY, EN, sv_w, ↓reduceIte, reduceCtorEq, Nat.reduceEqDiff, Nat.reduceAdd, Nat.reduceLeDiff, Nat.reduceLT, e1], by simp only [↓SP, SX, SW, TY, EN, sv_w, ↓reduceIte, reduceCtorEq, Nat.reduceEqDiff, Nat.reduceAdd, Nat.reduceLeDiff, Nat.reduceLT, Int.natCast_add, Int.cast_ofNat_Int], by omega, hx'⟩
    · skip
      have p14 := hc14
      try simp only [decide_eq_true_eq, decide_eq_false_iff_not, beq_iff_eq, bne_iff_ne, beq_eq_false_iff_ne, bne_eq_false_iff_eq, Bool.not_eq_true', Bool.not_eq_false'] at p14
      have he : xs = ys := by
        rw [List.take_of_length_le (by omega), List.take_of_length_le (by omega)] at hx
        exact hx
      refine wpT_exit rfl ?_
      refine wpT_seq ?_
      refine wpT_region (by kernel_rfl) (fun K hK => ?_)
      simp only [↓SP, SX, SW, TY, EN, sv_w, ↓reduceIte, reduceCtorEq, Nat.reduceEqDiff, Nat.reduceAdd, Nat.reduceLeDiff, Nat.reduceLT, hc14]
      refine hK _ _ ?_
      clear hK K
      refine wpT_ret ⟨.inr rfl, ?_⟩
      show optK (resA _ _ _ [.tmp 4]) _
      simp only [SR, Option.map_some, Option.bind_some, ↓SP, SX, SW, TY, EN, sv_w, ↓reduceIte, reduceCtorEq, Nat.reduceEqDiff, Nat.reduceAdd, Nat.reduceLeDiff, Nat.reduceLT, hc14]
      refine Lend.eq ?_
      first
        | simp only [hne, decide_false]
        | simp only [he, decide_true]
theorem c26 (xs ys : List Int) (hl : xs.length < 4611686018427387904) : Pu Tryz.prog (.fn (.func 26) [] []) [.lst (xs.map I), .lst (ys.map I)] (B (decide (xs = ys))) := by
  refine pu_func Tryz.func26 rfl (by kernel_rfl) (by show _ ≤ 26; simp only [List.length_append, List.length_cons, List.length_nil]; decide) (by simp only [IDF, and_tt, implies_true]) (by simp only [IDF, and_tt, implies_true]) (by simp only [IDF, and_tt, implies_true]) ?_
  rw [Tryz.ntmps26]
  refine wpT_seq ?_
  refine wpT_region (by kernel_rfl) (fun K hK => ?_)
  simp only [↓SP, SX, SW, TY, EN, sv_w, ↓reduceIte, reduceCtorEq, Nat.reduceEqDiff, Nat.reduceAdd, Nat.reduceLeDiff, Nat.reduceLT]
  refine hK _ _ ?_
  clear hK K
  refine wpT_seq ?_
  refine wpT_seq ?_
  refine wpT_region (by kernel_rfl) (fun K hK => ?_)
  simp only [↓SP, SX, SW, TY, EN, sv_w, ↓reduceIte, reduceCtorEq, Nat.reduceEqDiff, Nat.reduceAdd, Nat.reduceLeDiff, Nat.reduceLT]
  refine hK _ _ ?_
  clear hK K
  refine wpT_if (by rfl) (fun hc10 => ?_) (fun hc10 => ?_)
  · skip
    have p10 := hc10
    try simp only [decide_eq_true_eq, decide_eq_false_iff_not, beq_iff_eq, bne_iff_ne, beq_eq_false_iff_ne, bne_eq_false_iff_eq, Bool.not_eq_true', Bool.not_eq_false'] at p10
    have hne : xs ≠ ys := fun e => by subst e; simp at p10
    refine wpT_seq ?_
    refine wpT_region (by kernel_rfl) (fun K hK => ?_)
    simp only [↓SP, SX, SW, TY, EN, sv_w, ↓reduceIte, reduceCtorEq, Nat.reduceEqDiff, Nat.reduceAdd, Nat.reduceLeDiff, Nat.reduceLT, hc10]
    refine hK _ _ ?_
    clear hK K
    refine wpT_ret ⟨.inr rfl, ?_⟩
    show optK (resA _ _ _ [.tmp 4]) _
    simp only [SR, Option.map_some, Option.bind_some, ↓SP, SX, SW, TY, EN, sv_w, ↓reduceIte, reduceCtorEq, Nat.reduceEqDiff, Nat.reduceAdd, Nat.reduceLeDiff, Nat.reduceLT, hc10]
    refine Lend.eq ?_
    first
      | simp only [hne, decide_false]
      | simp only [he, decide_true]
  · skip
    have p10 := hc10
    try simp only [decide_eq_true_eq, decide_eq_false_iff_not, beq_iff_eq, bne_iff_ne, beq_eq_false_iff_ne, bne_eq_false_iff_eq, Bool.not_eq_true', Bool.not_eq_false'] at p10
    have hlen : xs.length = ys.length := by omega
    refine wpT_skip ?_
    refine wpT_seq ?_
    refine wpT_seq ?_
    refine wpT_region (by kernel_rfl) (fun K hK => ?_)
    simp only [↓SP, SX, SW, TY, EN, sv_w, ↓reduceIte, reduceCtorEq, Nat.reduceEqDiff, Nat.reduceAdd, Nat.reduceLeDiff, Nat.reduceLT, hc10]
    refine hK _ _ ?_
    clear hK K
    refine wpT_block ?_
    refine wpT_loop ?_
    refine wpT_keep0 ?_
    refine wpT_ind (fun (i : Nat) tm' h' => (∃ m, h' = Hp.of [] m) ∧ tm' 0 = .lst (xs.map I) ∧ tm' 1 = .lst (ys.map I) ∧ tm' 12 = I xs.length ∧ tm' 13 = I i ∧ i ≤ xs.length ∧ xs.take i = ys.take i) (fun i => xs.length - i) ?_ 0 ⟨⟨_, rfl⟩, rfl, rfl, rfl, rfl, Nat.zero_le _, rfl⟩
    rintro i tm' _ ⟨⟨m, rfl⟩, e0, e1, e12, e13, hi, hx⟩ IH
    refine wpT_inLoop ?_
    refine wpT_seq ?_
    refine wpT_region (by kernel_rfl) (fun K hK => ?_)
    simp only [↓SP, SX, SW, TY, EN, sv_w, ↓reduceIte, reduceCtorEq, Nat.reduceEqDiff, Nat.reduceAdd, Nat.reduceLeDiff, Nat.reduceLT, e12, e13]
    refine hK _ _ ?_
    clear hK K
    refine wpT_seq ?_
    refine wpT_if (by rfl) (fun hc14 => ?_) (fun hc14 => ?_)
    · skip
      have p14 := hc14
      try simp only [decide_eq_true_eq, decide_eq_false_iff_not, beq_iff_eq, bne_iff_ne, beq_eq_false_iff_ne, bne_eq_false_iff_eq, Bool.not_eq_true', Bool.not_eq_false'] at p14
      have hlt : i < xs.length := by omega
      have hlt' : i < ys.length := by omega
      have hg := at_map (f := I) hlt
      have hg' := at_map (f := I) hlt'
      refine wpT_skip ?_
      refine wpT_seq ?_
      refine wpT_block ?_
      refine wpT_seq ?_
      refine wpT_region (by kernel_rfl) (fun K hK => ?_)
      simp only [↓SP, SX, SW, TY, EN, sv_w, ↓reduceIte, reduceCtorEq, Nat.reduceEqDiff, Nat.reduceAdd, Nat.reduceLeDiff, Nat.reduceLT, e13, hc14]
      refine hK _ _ ?_
      clear hK K
      refine wpT_seq ?_
      refine wpT_drawn [] mixed (by kernel_rfl) (m := 9) rfl (fun K hK => ?_)
      simp only [↓SP, SX, SW, TY, EN, sv_w, ↓reduceIte, reduceCtorEq, Nat.reduceEqDiff, Nat.reduceAdd, Nat.reduceLeDiff, Nat.reduceLT, e0, e1, hg, hg', hc14]
      refine hK _ _ ?_
      clear hK K
      refine wpT_if (by rfl) (fun hc24 => ?_) (fun hc24 => ?_)
      · skip
        have p24 := hc24
        try simp only [decide_eq_true_eq, decide_eq_false_iff_not, beq_iff_eq, bne_iff_ne, beq_eq_false_iff_ne, bne_eq_false_iff_eq, Bool.not_eq_true', Bool.not_eq_false'] at p24
        have hne : xs ≠ ys := fun e => by subst e; simp at p24
        refine wpT_seq ?_
        refine wpT_region (by kernel_rfl) (fun K hK => ?_)
        simp only [↓SP, SX, SW, TY, EN, sv_w, ↓reduceIte, reduceCtorEq, Nat.reduceEqDiff, Nat.reduceAdd, Nat.reduceLeDiff, Nat.reduceLT, hc14, hc24]
        refine hK _ _ ?_
        clear hK K
        refine wpT_ret ⟨.inr rfl, ?_⟩
        show optK (resA _ _ _ [.tmp 4]) _
        simp only [SR, Option.map_some, Option.bind_some, ↓SP, SX, SW, TY, EN, sv_w, ↓reduceIte, reduceCtorEq, Nat.reduceEqDiff, Nat.reduceAdd, Nat.reduceLeDiff, Nat.reduceLT, hc14, hc24]
        refine Lend.eq ?_
        first
          | simp only [hne, decide_false]
          | simp only [he, decide_true]
      · skip
        have p24 := hc24
        try simp only [decide_eq_true_eq, decide_eq_false_iff_not, beq_iff_eq, bne_iff_ne, beq_eq_false_iff_ne, bne_eq_false_iff_eq, Bool.not_eq_true', Bool.not_eq_false'] at p24
        have hx' := take_step hlt hlt' hx p24
        refine wpT_skip ?_
        refine wpT_inBlock ?_
        refine wpT_region (by kernel_rfl) (fun K hK => ?_)
        simp only [↓SP, SX, SW, TY, EN, sv_w, ↓reduceIte, reduceCtorEq, Nat.reduceEqDiff, Nat.reduceAdd, Nat.reduceLeDiff, Nat.reduceLT, e13, wrap64 (x := (i : Int) + 1) (by omega) (by omega), hc14, hc24]
        refine hK _ _ ?_
        clear hK K
        refine wpT_keep0 ?_
        refine IH (i + 1) _ _ (by omega) ⟨⟨_, rfl⟩, by simp only [↓SP, SX, SW, TY, EN, sv_w, ↓reduceIte, reduceCtorEq, Nat.reduceEqDiff, Nat.reduceAdd, Nat.reduceLeDiff, Nat.reduceLT, e0], by simp only [↓SP, SX, SW, TY, EN, sv_w, ↓reduceIte, reduceCtorEq, Nat.reduceEqDiff, Nat.reduceAdd, Nat.reduceLeDiff, Nat.reduceLT, e1], by simp only [↓SP, SX, SW, TY, EN, sv_w, ↓reduceIte, reduceCtorEq, Nat.reduceEqDiff, Nat.reduceAdd, Nat.reduceLeDiff, Nat.reduceLT, e12], by simp only [↓SP, SX, SW, TY, EN, sv_w, ↓reduceIte, reduceCtorEq, Nat.reduceEqDiff, Nat.reduceAdd, Nat.reduceLeDiff, Nat.reduceLT, Int.natCast_add, Int.cast_ofNat_Int], by omega, hx'⟩
    · skip
      have p14 := hc14
      try simp only [decide_eq_true_eq, decide_eq_false_iff_not, beq_iff_eq, bne_iff_ne, beq_eq_false_iff_ne, bne_eq_false_iff_eq, Bool.not_eq_true', Bool.not_eq_false'] at p14
      have he : xs = ys := by
        rw [List.take_of_length_le (by omega), List.take_of_length_le (by omega)] at hx
        exact hx
      refine wpT_exit rfl ?_
      refine wpT_seq ?_
      refine wpT_region (by kernel_rfl) (fun K hK => ?_)
      simp only [↓SP, SX, SW, TY, EN, sv_w, ↓reduceIte, reduceCtorEq, Nat.reduceEqDiff, Nat.reduceAdd, Nat.reduceLeDiff, Nat.reduceLT, hc14]
      refine hK _ _ ?_
      clear hK K
      refine wpT_ret ⟨.inr rfl, ?_⟩
      show optK (resA _ _ _ [.tmp 4]) _
      simp only [SR, Option.map_some, Option.bind_some, ↓SP, SX, SW, TY, EN, sv_w, ↓reduceIte, reduceCtorEq, Nat.reduceEqDiff, Nat.reduceAdd, Nat.reduceLeDiff, Nat.reduceLT, hc14]
      refine Lend.eq ?_
      first
        | simp only [hne, decide_false]
        | simp only [he, decide_true]
theorem c154 (xs ys : List Sec) (hl : xs.length < 4611686018427387904) : Pu Tryz.prog (.fn (.func 154) [] []) [.lst (xs.map Sec.av), .lst (ys.map Sec.av)] (B (decide (xs = ys))) := by
  refine pu_func Tryz.func154 rfl (by kernel_rfl) (by show _ ≤ 26; simp only [List.length_append, List.length_cons, List.length_nil]; decide) (by simp only [IDF]) (by simp only [IDF, and_tt, implies_true]) (by simp only [IDF, sec_idf', and_tt, implies_true]) ?_
  rw [Tryz.ntmps154]
  refine wpT_seq ?_
  refine wpT_region (by kernel_rfl) (fun K hK => ?_)
  simp only [↓SP, SX, SW, TY, EN, sv_w, ↓reduceIte, reduceCtorEq, Nat.reduceEqDiff, Nat.reduceAdd, Nat.reduceLeDiff, Nat.reduceLT, sec_neq]
  refine hK _ _ ?_
  clear hK K
  refine wpT_seq ?_
  refine wpT_seq ?_
  refine wpT_region (by kernel_rfl) (fun K hK => ?_)
  simp only [↓SP, SX, SW, TY, EN, sv_w, ↓reduceIte, reduceCtorEq, Nat.reduceEqDiff, Nat.reduceAdd, Nat.reduceLeDiff, Nat.reduceLT, sec_neq]
  refine hK _ _ ?_
  clear hK K
  refine wpT_if (by rfl) (fun hc10 => ?_) (fun hc10 => ?_)
  · skip
    have p10 := hc10
    try simp only [decide_eq_true_eq, decide_eq_false_iff_not, beq_iff_eq, bne_iff_ne, beq_eq_false_iff_ne, bne_eq_false_iff_eq, Bool.not_eq_true', Bool.not_eq_false'] at p10
    have hne : xs ≠ ys := fun e => by subst e; simp at p10
    refine wpT_seq ?_
    refine wpT_region (by kernel_rfl) (fun K hK => ?_)
    simp only [↓SP, SX, SW, TY, EN, sv_w, ↓reduceIte, reduceCtorEq, Nat.reduceEqDiff, Nat.reduceAdd, Nat.reduceLeDiff, Nat.reduceLT, sec_neq, hc10]
    refine hK _ _ ?_
    clear hK K
    refine wpT_ret ⟨.inr rfl, ?_⟩
    show optK (resA _ _ _ [.tmp 4]) _
    simp only [SR, Option.map_some, Option.bind_some, ↓SP, SX, SW, TY, EN, sv_w, ↓reduceIte, reduceCtorEq, Nat.reduceEqDiff, Nat.reduceAdd, Nat.reduceLeDiff, Nat.reduceLT, sec_neq, hc10]
    refine Lend.eq ?_
    first
      | simp only [hne, decide_false]
      | simp only [he, decide_true]
  · skip
    have p10 := hc10
    try simp only [decide_eq_true_eq, decide_eq_false_iff_not, beq_iff_eq, bne_iff_ne, beq_eq_false_iff_ne, bne_eq_false_iff_eq, Bool.not_eq_true', Bool.not_eq_false'] at p10
    have hlen : xs.length = ys.length := by omega
    refine wpT_skip ?_
    refine wpT_seq ?_
    refine wpT_seq ?_
    refine wpT_region (by kernel_rfl) (fun K hK => ?_)
    simp only [↓SP, SX, SW, TY, EN, sv_w, ↓reduceIte, reduceCtorEq, Nat.reduceEqDiff, Nat.reduceAdd, Nat.reduceLeDiff, Nat.reduceLT, sec_neq, hc10]
    refine hK _ _ ?_
    clear hK K
    refine wpT_block ?_
    refine wpT_loop ?_
    refine wpT_keep0 ?_
    refine wpT_ind (fun (i : Nat) tm' h' => (∃ m, h' = Hp.of [] m) ∧ tm' 0 = .lst (xs.map Sec.av) ∧ tm' 1 = .lst (ys.map Sec.av) ∧ tm' 5 = I i ∧ i ≤ xs.length ∧ xs.take i = ys.take i) (fun i => xs.length - i) ?_ 0 ⟨⟨_, rfl⟩, rfl, rfl, rfl, Nat.zero_le _, rfl⟩
    rintro i tm' _ ⟨⟨m, rfl⟩, e0, e1, e5, hi, hx⟩ IH
    refine wpT_inLoop ?_
    refine wpT_seq ?_
    refine wpT_seq ?_
    refine wpT_region (by kernel_rfl) (fun K hK => ?_)
    simp only [↓SP, SX, SW, TY, EN, sv_w, ↓reduceIte, reduceCtorEq, Nat.reduceEqDiff, Nat.reduceAdd, Nat.reduceLeDiff, Nat.reduceLT, sec_neq, e0, e5]
    refine hK _ _ ?_
    clear hK K
    refine wpT_if (by rfl) (fun hc14 => ?_) (fun hc14 => ?_)
    · skip
      have p14 := hc14
      try simp only [decide_eq_true_eq, decide_eq_false_iff_not, beq_iff_eq, bne_iff_ne, beq_eq_false_iff_ne, bne_eq_false_iff_eq, Bool.not_eq_true', Bool.not_eq_false'] at p14
      have hlt : i < xs.length := by omega
      have hlt' : i < ys.length := by omega
      have hg := at_map (f := Sec.av) hlt
      have hg' := at_map (f := Sec.av) hlt'
      refine wpT_skip ?_
      refine wpT_seq ?_
      refine wpT_block ?_
      refine wpT_seq ?_
      refine wpT_drawn [] mixed (by kernel_rfl) (m := 9) rfl (fun K hK => ?_)
      simp only [↓SP, SX, SW, TY, EN, sv_w, ↓reduceIte, reduceCtorEq, Nat.reduceEqDiff, Nat.reduceAdd, Nat.reduceLeDiff, Nat.reduceLT, sec_neq, e0, e1, e5, hg, hg', hc14]
      refine hK _ _ ?_
      clear hK K
      refine wpT_if (by rfl) (fun hc25 => ?_) (fun hc25 => ?_)
      · skip
        have p25 := hc25
        try simp only [decide_eq_true_eq, decide_eq_false_iff_not, beq_iff_eq, bne_iff_ne, beq_eq_false_iff_ne, bne_eq_false_iff_eq, Bool.not_eq_true', Bool.not_eq_false'] at p25
        have hne : xs ≠ ys := fun e => by subst e; simp at p25
        refine wpT_seq ?_
        refine wpT_region (by kernel_rfl) (fun K hK => ?_)
        simp only [↓SP, SX, SW, TY, EN, sv_w, ↓reduceIte, reduceCtorEq, Nat.reduceEqDiff, Nat.reduceAdd, Nat.reduceLeDiff, Nat.reduceLT, sec_neq, hc14, hc25]
        refine hK _ _ ?_
        clear hK K
        refine wpT_ret ⟨.inr rfl, ?_⟩
        show optK (resA _ _ _ [.tmp 4]) _
        simp only [SR, Option.map_some, Option.bind_some, ↓SP, SX, SW, TY, EN, sv_w, ↓reduceIte, reduceCtorEq, Nat.reduceEqDiff, Nat.reduceAdd, Nat.reduceLeDiff, Nat.reduceLT, sec_neq, hc14, hc25]
        refine Lend.eq ?_
        first
          | simp only [hne, decide_false]
          | simp only [he, decide_true]
      · skip
        have p25 := hc25
        try simp only [decide_eq_true_eq, decide_eq_false_iff_not, beq_iff_eq, bne_iff_ne, beq_eq_false_iff_ne, bne_eq_false_iff_eq, Bool.not_eq_true', Bool.not_eq_false'] at p25
        have hx' := take_step hlt hlt' hx (by simpa using p25)
        refine wpT_skip ?_
        refine wpT_inBlock ?_
        refine wpT_region (by kernel_rfl) (fun K hK => ?_)
        simp only [↓SP, SX, SW, TY, EN, sv_w, ↓reduceIte, reduceCtorEq, Nat.reduceEqDiff, Nat.reduceAdd, Nat.reduceLeDiff, Nat.reduceLT, sec_neq, e5, wrap64 (x := (i : Int) + 1) (by omega) (by omega), hc14, hc25]
        refine hK _ _ ?_
        clear hK K
        refine wpT_keep0 ?_
        refine IH (i + 1) _ _ (by omega) ⟨⟨_, rfl⟩, by simp only [↓SP, SX, SW, TY, EN, sv_w, ↓reduceIte, reduceCtorEq, Nat.reduceEqDiff, Nat.reduceAdd, Nat.reduceLeDiff, Nat.reduceLT, sec_neq, e0], by simp only [↓SP, SX, SW, TY, EN, sv_w, ↓reduceIte, reduceCtorEq, Nat.reduceEqDiff, Nat.reduceAdd, Nat.reduceLeDiff, Nat.reduceLT, sec_neq, e1], by simp only [↓SP, SX, SW, TY, EN, sv_w, ↓reduceIte, reduceCtorEq, Nat.reduceEqDiff, Nat.reduceAdd, Nat.reduceLeDiff, Nat.reduceLT, sec_neq, Int.natCast_add, Int.cast_ofNat_Int], by omega, hx'⟩
    · skip
      have p14 := hc14
      try simp only [decide_eq_true_eq, decide_eq_false_iff_not, beq_iff_eq, bne_iff_ne, beq_eq_false_iff_ne, bne_eq_false_iff_eq, Bool.not_eq_true', Bool.not_eq_false'] at p14
      have he : xs = ys := by
        rw [List.take_of_length_le (by omega), List.take_of_length_le (by omega)] at hx
        exact hx
      refine wpT_exit rfl ?_
      refine wpT_seq ?_
      refine wpT_region (by kernel_rfl) (fun K hK => ?_)
      simp only [↓SP, SX, SW, TY, EN, sv_w, ↓reduceIte, reduceCtorEq, Nat.reduceEqDiff, Nat.reduceAdd, Nat.reduceLeDiff, Nat.reduceLT, sec_neq, hc14]
      refine hK _ _ ?_
      clear hK K
      refine wpT_ret ⟨.inr rfl, ?_⟩
      show optK (resA _ _ _ [.tmp 4]) _
      simp only [SR, Option.map_some, Option.bind_some, ↓SP, SX, SW, TY, EN, sv_w, ↓reduceIte, reduceCtorEq, Nat.reduceEqDiff, Nat.reduceAdd, Nat.reduceLeDiff, Nat.reduceLT, sec_neq, hc14]
      refine Lend.eq ?_
      first
        | simp only [hne, decide_false]
        | simp only [he, decide_true]
end Go.Proofs.YtlmjpgmaefokdaaGreat
end

section
set_option linter.unusedSimpArgs false
set_option linter.unusedVariables false
namespace Go.Proofs.YtlmjpgmaefokdaaGreat
open Go.Proofs
set_option maxRecDepth 10000
theorem wr_ext {x y : Wr} (h1 : x.vol = y.vol) (h2 : x.start = y.start) (h3 : x.data = y.data) : x = y := by cases x; cases y; simp_all
theorem c92 (xs ys : List Wr) (hl : xs.length < 4611686018427387904) (hw : ∀ w ∈ xs, w.data.length < 4611686018427387904) : Pu Tryz.prog (.fn (.func 92) [] []) [.lst (xs.map Wr.av), .lst (ys.map Wr.av)] (B (decide (xs = ys))) := by
  refine pu_func Tryz.func92 rfl (by kernel_rfl) (by show _ ≤ 55; simp only [List.length_append, List.length_cons, List.length_nil]; decide) (by simp only [IDF]) (by simp only [IDF, and_tt, implies_true]) (by simp only [IDF, wr_idf, and_tt, implies_true]) ?_
  rw [Tryz.ntmps92]
  refine wpT_seq ?_
  refine wpT_region (by kernel_rfl) (fun K hK => ?_)
  simp only [↓SP, SX, SW, TY, EN, sv_w, ↓reduceIte, reduceCtorEq, Nat.reduceEqDiff, Nat.reduceAdd, Nat.reduceLeDiff, Nat.reduceLT, wr_cs]
  refine hK _ _ ?_
  clear hK K
  refine wpT_seq ?_
  refine wpT_seq ?_
  refine wpT_region (by kernel_rfl) (fun K hK => ?_)
  simp only [↓SP, SX, SW, TY, EN, sv_w, ↓reduceIte, reduceCtorEq, Nat.reduceEqDiff, Nat.reduceAdd, Nat.reduceLeDiff, Nat.reduceLT, wr_cs]
  refine hK _ _ ?_
  clear hK K
  refine wpT_if (by rfl) (fun hc10 => ?_) (fun hc10 => ?_)
  · skip
    have p10 := hc10
    try simp only [decide_eq_true_eq, decide_eq_false_iff_not, beq_iff_eq, bne_iff_ne, beq_eq_false_iff_ne, bne_eq_false_iff_eq, Bool.not_eq_true', Bool.not_eq_false'] at p10
    have hne : xs ≠ ys := fun e => by subst e; simp at p10
    refine wpT_seq ?_
    refine wpT_region (by kernel_rfl) (fun K hK => ?_)
    simp only [↓SP, SX, SW, TY, EN, sv_w, ↓reduceIte, reduceCtorEq, Nat.reduceEqDiff, Nat.reduceAdd, Nat.reduceLeDiff, Nat.reduceLT, wr_cs, hc10]
    refine hK _ _ ?_
    clear hK K
    refine wpT_ret ⟨.inr rfl, ?_⟩
    show optK (resA _ _ _ [.tmp 4]) _
    simp only [SR, Option.map_some, Option.bind_some, ↓SP, SX, SW, TY, EN, sv_w, ↓reduceIte, reduceCtorEq, Nat.reduceEqDiff, Nat.reduceAdd, Nat.reduceLeDiff, Nat.reduceLT, wr_cs, hc10]
    refine Lend.eq ?_
    first
      | simp only [hne, decide_false]
      | simp only [he, decide_true]
  · skip
    have p10 := hc10
    try simp only [decide_eq_true_eq, decide_eq_false_iff_not, beq_iff_eq, bne_iff_ne, beq_eq_false_iff_ne, bne_eq_false_iff_eq, Bool.not_eq_true', Bool.not_eq_false'] at p10
    have hlen : xs.length = ys.length := by omega
    refine wpT_skip ?_
    refine wpT_seq ?_
    refine wpT_seq ?_
    refine wpT_region (by kernel_rfl) (fun K hK => ?_)
    simp only [↓SP, SX, SW, TY, EN, sv_w, ↓reduceIte, reduceCtorEq, Nat.reduceEqDiff, Nat.reduceAdd, Nat.reduceLeDiff, Nat.reduceLT, wr_cs, hc10]
    refine hK _ _ ?_
    clear hK K
    refine wpT_block ?_
    refine wpT_loop ?_
    refine wpT_keep0 ?_
    refine wpT_ind (fun (i : Nat) tm' h' => (∃ m, h' = Hp.of [] m) ∧ tm' 0 = .lst (xs.map Wr.av) ∧ tm' 1 = .lst (ys.map Wr.av) ∧ tm' 5 = I i ∧ i ≤ xs.length ∧ xs.take i = ys.take i) (fun i => xs.length - i) ?_ 0 ⟨⟨_, rfl⟩, rfl, rfl, rfl, Nat.zero_le _, rfl⟩
    rintro i tm' _ ⟨⟨m, rfl⟩, e0, e1, e5, hi, hx⟩ IH
    refine wpT_inLoop ?_
    refine wpT_seq ?_
    refine wpT_seq ?_
    refine wpT_region (by kernel_rfl) (fun K hK => ?_)
    simp only [↓SP, SX, SW, TY, EN, sv_w, ↓reduceIte, reduceCtorEq, Nat.reduceEqDiff, Nat.reduceAdd, Nat.reduceLeDiff, Nat.reduceLT, wr_cs, e0, e5]
    refine hK _ _ ?_
    clear hK K
    refine wpT_if (by rfl) (fun hc14 => ?_) (fun hc14 => ?_)
    · skip
      have p14 := hc14
      try simp only [decide_eq_true_eq, decide_eq_false_iff_not, beq_iff_eq, bne_iff_ne, beq_eq_false_iff_ne, bne_eq_false_iff_eq, Bool.not_eq_true', Bool.not_eq_false'] at p14
      have hlt : i < xs.length := by omega
      have hlt' : i < ys.length := by omega
      have hg := at_map (f := Wr.av) hlt
      have hg' := at_map (f := Wr.av) hlt'
      have hwi := hw xs[i] (List.getElem_mem hlt)
      refine wpT_skip ?_
      refine wpT_seq ?_
      refine wpT_block ?_
      refine wpT_seq ?_
      refine wpT_drawn [] mixed (by kernel_rfl) (m := 38) rfl (fun K hK => ?_)
      simp only [↓SP, SX, SW, TY, EN, sv_w, ↓reduceIte, reduceCtorEq, Nat.reduceEqDiff, Nat.reduceAdd, Nat.reduceLeDiff, Nat.reduceLT, wr_cs, e0, e1, e5, hg, hg', hc14]
      refine guardD_split (fun hg28 => ?_) (fun hg28 => ?_)
      · skip
        have p28 := hg28
        try simp only [decide_eq_true_eq, decide_eq_false_iff_not, beq_iff_eq, bne_iff_ne, beq_eq_false_iff_ne, bne_eq_false_iff_eq, Bool.not_eq_true', Bool.not_eq_false'] at p28
        simp only [↓SP, SX, SW, TY, EN, sv_w, ↓reduceIte, reduceCtorEq, Nat.reduceEqDiff, Nat.reduceAdd, Nat.reduceLeDiff, Nat.reduceLT, wr_cs, e0, e1, e5, hg, hg', hc14, hg28]
        refine guardD_split (fun hg41 => ?_) (fun hg41 => ?_)
        · skip
          have p41 := hg41
          try simp only [decide_eq_true_eq, decide_eq_false_iff_not, beq_iff_eq, bne_iff_ne, beq_eq_false_iff_ne, bne_eq_false_iff_eq, Bool.not_eq_true', Bool.not_eq_false'] at p41
          simp only [↓SP, SX, SW, TY, EN, sv_w, ↓reduceIte, reduceCtorEq, Nat.reduceEqDiff, Nat.reduceAdd, Nat.reduceLeDiff, Nat.reduceLT, wr_cs, e0, e1, e5, hg, hg', hc14, hg28, hg41]
          refine Pu.callD (c154 _ _ hwi) ?_
          simp only [↓SP, SX, SW, TY, EN, sv_w, ↓reduceIte, reduceCtorEq, Nat.reduceEqDiff, Nat.reduceAdd, Nat.reduceLeDiff, Nat.reduceLT, wr_cs, e0, e1, e5, hg, hg', hc14, hg28, hg41]
          refine hK _ _ ?_
          clear hK K
          refine wpT_if (by rfl) (fun hc54 => ?_) (fun hc54 => ?_)
          · skip
            have p54 := hc54
            try simp only [decide_eq_true_eq, decide_eq_false_iff_not, beq_iff_eq, bne_iff_ne, beq_eq_false_iff_ne, bne_eq_false_iff_eq, Bool.not_eq_true', Bool.not_eq_false'] at p54
            have hne : xs ≠ ys := by
              rintro rfl
              simp_all
            refine wpT_seq ?_
            refine wpT_region (by kernel_rfl) (fun K hK => ?_)
            simp only [↓SP, SX, SW, TY, EN, sv_w, ↓reduceIte, reduceCtorEq, Nat.reduceEqDiff, Nat.reduceAdd, Nat.reduceLeDiff, Nat.reduceLT, wr_cs, hc14, hg28, hg41, hc54]
            refine hK _ _ ?_
            clear hK K
            refine wpT_ret ⟨.inr rfl, ?_⟩
            show optK (resA _ _ _ [.tmp 4]) _
            simp only [SR, Option.map_some, Option.bind_some, ↓SP, SX, SW, TY, EN, sv_w, ↓reduceIte, reduceCtorEq, Nat.reduceEqDiff, Nat.reduceAdd, Nat.reduceLeDiff, Nat.reduceLT, wr_cs, hc14, hg28, hg41, hc54]
            refine Lend.eq ?_
            first
              | simp only [hne, decide_false]
              | simp only [he, decide_true]
          · skip
            have p54 := hc54
            try simp only [decide_eq_true_eq, decide_eq_false_iff_not, beq_iff_eq, bne_iff_ne, beq_eq_false_iff_ne, bne_eq_false_iff_eq, Bool.not_eq_true', Bool.not_eq_false'] at p54
            have hx' := take_step hlt hlt' hx (wr_ext (by simp_all) (by simp_all) (by simp_all))
            refine wpT_skip ?_
            refine wpT_inBlock ?_
            refine wpT_region (by kernel_rfl) (fun K hK => ?_)
            simp only [↓SP, SX, SW, TY, EN, sv_w, ↓reduceIte, reduceCtorEq, Nat.reduceEqDiff, Nat.reduceAdd, Nat.reduceLeDiff, Nat.reduceLT, wr_cs, e5, wrap64 (x := (i : Int) + 1) (by omega) (by omega), hc14, hg28, hg41, hc54]
            refine hK _ _ ?_
            clear hK K
            refine wpT_keep0 ?_
            refine IH (i + 1) _ _ (by omega) ⟨⟨_, rfl⟩, by simp only [↓SP, SX, SW, TY, EN, sv_w, ↓reduceIte, reduceCtorEq, Nat.reduceEqDiff, Nat.reduceAdd, Nat.reduceLeDiff, Nat.reduceLT, wr_cs, e0], by simp only [↓SP, SX, SW, TY, EN, sv_w, ↓reduceIte, reduceCtorEq, Nat.reduceEqDiff, Nat.reduceAdd, Nat.reduceLeDiff, Nat.reduceLT, wr_cs, e1], by simp only [↓SP, SX, SW, TY, EN, sv_w, ↓reduceIte, reduceCtorEq, Nat.reduceEqDiff, Nat.reduceAdd, Nat.reduceLeDiff, Nat.reduceLT, wr_cs, Int.natCast_add, Int.cast_ofNat_Int], by omega, hx'⟩
        · skip
          simp only [Bool.not_true, Bool.not_false] at hg41
          have p41 := hg41
          try simp only [decide_eq_true_eq, decide_eq_false_iff_not, beq_iff_eq, bne_iff_ne, beq_eq_false_iff_ne, bne_eq_false_iff_eq, Bool.not_eq_true', Bool.not_eq_false'] at p41
          simp only [↓SP, SX, SW, TY, EN, sv_w, ↓reduceIte, reduceCtorEq, Nat.reduceEqDiff, Nat.reduceAdd, Nat.reduceLeDiff, Nat.reduceLT, wr_cs, e0, e1, e5, hg, hg', hc14, hg28, hg41]
          refine hK _ _ ?_
          clear hK K
          refine wpT_ifT (by simp only [↓SP, SX, SW, TY, EN, sv_w, ↓reduceIte, reduceCtorEq, Nat.reduceEqDiff, Nat.reduceAdd, Nat.reduceLeDiff, Nat.reduceLT, wr_cs, hc14, hg28, hg41]) ?_
          have hne : xs ≠ ys := by
            rintro rfl
            simp_all
          refine wpT_seq ?_
          refine wpT_region (by kernel_rfl) (fun K hK => ?_)
          simp only [↓SP, SX, SW, TY, EN, sv_w, ↓reduceIte, reduceCtorEq, Nat.reduceEqDiff, Nat.reduceAdd, Nat.reduceLeDiff, Nat.reduceLT, wr_cs, hc14, hg28, hg41]
          refine hK _ _ ?_
          clear hK K
          refine wpT_ret ⟨.inr rfl, ?_⟩
          show optK (resA _ _ _ [.tmp 4]) _
          simp only [SR, Option.map_some, Option.bind_some, ↓SP, SX, SW, TY, EN, sv_w, ↓reduceIte, reduceCtorEq, Nat.reduceEqDiff, Nat.reduceAdd, Nat.reduceLeDiff, Nat.reduceLT, wr_cs, hc14, hg28, hg41]
          refine Lend.eq ?_
          first
            | simp only [hne, decide_false]
            | simp only [he, decide_true]
      · skip
        simp only [Bool.not_true, Bool.not_false] at hg28
        have p28 := hg28
        try simp only [decide_eq_true_eq, decide_eq_false_iff_not, beq_iff_eq, bne_iff_ne, beq_eq_false_iff_ne, bne_eq_false_iff_eq, Bool.not_eq_true', Bool.not_eq_false'] at p28
        simp only [↓SP, SX, SW, TY, EN, sv_w, ↓reduceIte, reduceCtorEq, Nat.reduceEqDiff, Nat.reduceAdd, Nat.reduceLeDiff, Nat.reduceLT, wr_cs, e0, e1, e5, hg, hg', hc14, hg28]
        refine hK _ _ ?_
        clear hK K
        refine wpT_ifT (by simp only [↓SP, SX, SW, TY, EN, sv_w, ↓reduceIte, reduceCtorEq, Nat.reduceEqDiff, Nat.reduceAdd, Nat.reduceLeDiff, Nat.reduceLT, wr_cs, hc14, hg28]) ?_
        have hne : xs ≠ ys := by
          rintro rfl
          simp_all
        refine wpT_seq ?_
        refine wpT_region (by kernel_rfl) (fun K hK => ?_)
        simp only [↓SP, SX, SW, TY, EN, sv_w, ↓reduceIte, reduceCtorEq, Nat.reduceEqDiff, Nat.reduceAdd, Nat.reduceLeDiff, Nat.reduceLT, wr_cs, hc14, hg28]
        refine hK _ _ ?_
        clear hK K
        refine wpT_ret ⟨.inr rfl, ?_⟩
        show optK (resA _ _ _ [.tmp 4]) _
        simp only [SR, Option.map_some, Option.bind_some, ↓SP, SX, SW, TY, EN, sv_w, ↓reduceIte, reduceCtorEq, Nat.reduceEqDiff, Nat.reduceAdd, Nat.reduceLeDiff, Nat.reduceLT, wr_cs, hc14, hg28]
        refine Lend.eq ?_
        first
          | simp only [hne, decide_false]
          | simp only [he, decide_true]
    · skip
      have p14 := hc14
      try simp only [decide_eq_true_eq, decide_eq_false_iff_not, beq_iff_eq, bne_iff_ne, beq_eq_false_iff_ne, bne_eq_false_iff_eq, Bool.not_eq_true', Bool.not_eq_false'] at p14
      have he : xs = ys := by
        rw [List.take_of_length_le (by omega), List.take_of_length_le (by omega)] at hx
        exact hx
      refine wpT_exit rfl ?_
      refine wpT_seq ?_
      refine wpT_region (by kernel_rfl) (fun K hK => ?_)
      simp only [↓SP, SX, SW, TY, EN, sv_w, ↓reduceIte, reduceCtorEq, Nat.reduceEqDiff, Nat.reduceAdd, Nat.reduceLeDiff, Nat.reduceLT, wr_cs, hc14]
      refine hK _ _ ?_
      clear hK K
      refine wpT_ret ⟨.inr rfl, ?_⟩
      show optK (resA _ _ _ [.tmp 4]) _
      simp only [SR, Option.map_some, Option.bind_some, ↓SP, SX, SW, TY, EN, sv_w, ↓reduceIte, reduceCtorEq, Nat.reduceEqDiff, Nat.reduceAdd, Nat.reduceLeDiff, Nat.reduceLT, wr_cs, hc14]
      refine Lend.eq ?_
      first
        | simp only [hne, decide_false]
        | simp only [he, decide_true]
end Go.Proofs.YtlmjpgmaefokdaaGreat
end

section
set_option linter.unusedSimpArgs false
set_option linter.unusedVariables false
namespace Go.Proofs.YtlmjpgmaefokdaaGreat
open Go.Proofs
set_option maxRecDepth 10000
def fewC (x : Cyc) : Prop := x.pos.length ≤ 40 ∧ x.ws.length ≤ 40 ∧ ∀ w ∈ x.ws, w.data.length ≤ 24
instance (x : Cyc) : Decidable (fewC x) := inferInstanceAs (Decidable (_ ∧ _ ∧ _))
theorem cyc_ext {x y : Cyc} (h1 : x.base = y.base) (h2 : x.num = y.num) (h3 : x.time = y.time) (h4 : x.pos = y.pos) (h5 : x.ws = y.ws) : x = y := by cases x; cases y; simp_all
theorem c27 (x y : Cyc) (hx : x.ok) : Pu Tryz.prog (.fn (.func 27) [] []) [x.av, y.av] (B (decide (x = y))) := by
  refine pu_func Tryz.func27 rfl (by kernel_rfl) (by show _ ≤ 38; simp only [List.length_append, List.length_cons, List.length_nil]; decide) (by simp only [IDF]) (by simp only [IDF, and_tt, implies_true]) (by simp only [IDF, cyc_idf, and_tt, implies_true]) ?_
  rw [Tryz.ntmps27]
  refine wpT_seq ?_
  refine wpT_region (by kernel_rfl) (fun K hK => ?_)
  simp only [↓SP, SX, SW, TY, EN, sv_w, ↓reduceIte, reduceCtorEq, Nat.reduceEqDiff, Nat.reduceAdd, Nat.reduceLeDiff, Nat.reduceLT, cyc_cs, Cyc.av]
  refine hK _ _ ?_
  clear hK K
  refine wpT_seq ?_
  refine wpT_region (by kernel_rfl) (fun K hK => ?_)
  simp only [↓SP, SX, SW, TY, EN, sv_w, ↓reduceIte, reduceCtorEq, Nat.reduceEqDiff, Nat.reduceAdd, Nat.reduceLeDiff, Nat.reduceLT, cyc_cs, Cyc.av]
  refine guardO_split (fun hg10 => ?_) (fun hg10 => ?_)
  · skip
    have p10 := hg10
    try simp only [decide_eq_true_eq, decide_eq_false_iff_not, beq_iff_eq, bne_iff_ne, beq_eq_false_iff_ne, bne_eq_false_iff_eq, Bool.not_eq_true', Bool.not_eq_false'] at p10
    simp only [↓SP, SX, SW, TY, EN, sv_w, ↓reduceIte, reduceCtorEq, Nat.reduceEqDiff, Nat.reduceAdd, Nat.reduceLeDiff, Nat.reduceLT, cyc_cs, Cyc.av, hg10]
    refine guardO_split (fun hg17 => ?_) (fun hg17 => ?_)
    · skip
      have p17 := hg17
      try simp only [decide_eq_true_eq, decide_eq_false_iff_not, beq_iff_eq, bne_iff_ne, beq_eq_false_iff_ne, bne_eq_false_iff_eq, Bool.not_eq_true', Bool.not_eq_false'] at p17
      simp only [↓SP, SX, SW, TY, EN, sv_w, ↓reduceIte, reduceCtorEq, Nat.reduceEqDiff, Nat.reduceAdd, Nat.reduceLeDiff, Nat.reduceLT, cyc_cs, Cyc.av, hg10, hg17]
      refine guardO_split (fun hg24 => ?_) (fun hg24 => ?_)
      · skip
        have p24 := hg24
        try simp only [decide_eq_true_eq, decide_eq_false_iff_not, beq_iff_eq, bne_iff_ne, beq_eq_false_iff_ne, bne_eq_false_iff_eq, Bool.not_eq_true', Bool.not_eq_false'] at p24
        simp only [↓SP, SX, SW, TY, EN, sv_w, ↓reduceIte, reduceCtorEq, Nat.reduceEqDiff, Nat.reduceAdd, Nat.reduceLeDiff, Nat.reduceLT, cyc_cs, Cyc.av, hg10, hg17, hg24]
        refine Pu.call (c91 _ _ hx.1) ?_
        simp only [↓SP, SX, SW, TY, EN, sv_w, ↓reduceIte, reduceCtorEq, Nat.reduceEqDiff, Nat.reduceAdd, Nat.reduceLeDiff, Nat.reduceLT, cyc_cs, Cyc.av, hg10, hg17, hg24]
        refine guardO_split (fun hg31 => ?_) (fun hg31 => ?_)
        · skip
          have p31 := hg31
          try simp only [decide_eq_true_eq, decide_eq_false_iff_not, beq_iff_eq, bne_iff_ne, beq_eq_false_iff_ne, bne_eq_false_iff_eq, Bool.not_eq_true', Bool.not_eq_false'] at p31
          simp only [↓SP, SX, SW, TY, EN, sv_w, ↓reduceIte, reduceCtorEq, Nat.reduceEqDiff, Nat.reduceAdd, Nat.reduceLeDiff, Nat.reduceLT, cyc_cs, Cyc.av, hg10, hg17, hg24, hg31]
          refine Pu.call (c92 _ _ hx.2.1 hx.2.2) ?_
          simp only [↓SP, SX, SW, TY, EN, sv_w, ↓reduceIte, reduceCtorEq, Nat.reduceEqDiff, Nat.reduceAdd, Nat.reduceLeDiff, Nat.reduceLT, cyc_cs, Cyc.av, hg10, hg17, hg24, hg31]
          refine hK _ _ ?_
          clear hK K
          refine wpT_ret ⟨.inr rfl, ?_⟩
          show optK (resA _ _ _ [.tmp 4]) _
          simp only [SR, Option.map_some, Option.bind_some, ↓SP, SX, SW, TY, EN, sv_w, ↓reduceIte, reduceCtorEq, Nat.reduceEqDiff, Nat.reduceAdd, Nat.reduceLeDiff, Nat.reduceLT, cyc_cs, Cyc.av, hg10, hg17, hg24, hg31]
          refine Lend.eq ?_
          congr 1
          cases x; cases y; simp_all
        · skip
          simp only [Bool.not_true, Bool.not_false] at hg31
          have p31 := hg31
          try simp only [decide_eq_true_eq, decide_eq_false_iff_not, beq_iff_eq, bne_iff_ne, beq_eq_false_iff_ne, bne_eq_false_iff_eq, Bool.not_eq_true', Bool.not_eq_false'] at p31
          simp only [↓SP, SX, SW, TY, EN, sv_w, ↓reduceIte, reduceCtorEq, Nat.reduceEqDiff, Nat.reduceAdd, Nat.reduceLeDiff, Nat.reduceLT, cyc_cs, Cyc.av, hg10, hg17, hg24, hg31]
          refine hK _ _ ?_
          clear hK K
          refine wpT_ret ⟨.inr rfl, ?_⟩
          show optK (resA _ _ _ [.tmp 4]) _
          simp only [SR, Option.map_some, Option.bind_some, ↓SP, SX, SW, TY, EN, sv_w, ↓reduceIte, reduceCtorEq, Nat.reduceEqDiff, Nat.reduceAdd, Nat.reduceLeDiff, Nat.reduceLT, cyc_cs, Cyc.av, hg10, hg17, hg24, hg31]
          refine Lend.eq ?_
          congr 1
          cases x; cases y; simp_all
      · skip
        simp only [Bool.not_true, Bool.not_false] at hg24
        have p24 := hg24
        try simp only [decide_eq_true_eq, decide_eq_false_iff_not, beq_iff_eq, bne_iff_ne, beq_eq_false_iff_ne, bne_eq_false_iff_eq, Bool.not_eq_true', Bool.not_eq_false'] at p24
        simp only [↓SP, SX, SW, TY, EN, sv_w, ↓reduceIte, reduceCtorEq, Nat.reduceEqDiff, Nat.reduceAdd, Nat.reduceLeDiff, Nat.reduceLT, cyc_cs, Cyc.av, hg10, hg17, hg24]
        refine hK _ _ ?_
        clear hK K
        refine wpT_ret ⟨.inr rfl, ?_⟩
        show optK (resA _ _ _ [.tmp 4]) _
        simp only [SR, Option.map_some, Option.bind_some, ↓SP, SX, SW, TY, EN, sv_w, ↓reduceIte, reduceCtorEq, Nat.reduceEqDiff, Nat.reduceAdd, Nat.reduceLeDiff, Nat.reduceLT, cyc_cs, Cyc.av, hg10, hg17, hg24]
        refine Lend.eq ?_
        congr 1
        cases x; cases y; simp_all
    · skip
      simp only [Bool.not_true, Bool.not_false] at hg17
      have p17 := hg17
      try simp only [decide_eq_true_eq, decide_eq_false_iff_not, beq_iff_eq, bne_iff_ne, beq_eq_false_iff_ne, bne_eq_false_iff_eq, Bool.not_eq_true', Bool.not_eq_false'] at p17
      simp only [↓SP, SX, SW, TY, EN, sv_w, ↓reduceIte, reduceCtorEq, Nat.reduceEqDiff, Nat.reduceAdd, Nat.reduceLeDiff, Nat.reduceLT, cyc_cs, Cyc.av, hg10, hg17]
      refine hK _ _ ?_
      clear hK K
      refine wpT_ret ⟨.inr rfl, ?_⟩
      show optK (resA _ _ _ [.tmp 4]) _
      simp only [SR, Option.map_some, Option.bind_some, ↓SP, SX, SW, TY, EN, sv_w, ↓reduceIte, reduceCtorEq, Nat.reduceEqDiff, Nat.reduceAdd, Nat.reduceLeDiff, Nat.reduceLT, cyc_cs, Cyc.av, hg10, hg17]
      refine Lend.eq ?_
      congr 1
      cases x; cases y; simp_all
  · skip
    simp only [Bool.not_true, Bool.not_false] at hg10
    have p10 := hg10
    try simp only [decide_eq_true_eq, decide_eq_false_iff_not, beq_iff_eq, bne_iff_ne, beq_eq_false_iff_ne, bne_eq_false_iff_eq, Bool.not_eq_true', Bool.not_eq_false'] at p10
    simp only [↓SP, SX, SW, TY, EN, sv_w, ↓reduceIte, reduceCtorEq, Nat.reduceEqDiff, Nat.reduceAdd, Nat.reduceLeDiff, Nat.reduceLT, cyc_cs, Cyc.av, hg10]
    refine hK _ _ ?_
    clear hK K
    refine wpT_ret ⟨.inr rfl, ?_⟩
    show optK (resA _ _ _ [.tmp 4]) _
    simp only [SR, Option.map_some, Option.bind_some, ↓SP, SX, SW, TY, EN, sv_w, ↓reduceIte, reduceCtorEq, Nat.reduceEqDiff, Nat.reduceAdd, Nat.reduceLeDiff, Nat.reduceLT, cyc_cs, Cyc.av, hg10]
    refine Lend.eq ?_
    congr 1
    cases x; cases y; simp_all
theorem c56 (xs : List Wr) (hl : xs.length < 4611686018427387904) : Pu Tryz.prog (.fn (.func 56) [] []) [.lst (xs.map Wr.av)] (B (decide (xs.length ≤ 40 ∧ ∀ w ∈ xs, w.data.length ≤ 24))) := by
  refine pu_func Tryz.func56 rfl (by kernel_rfl) (by show _ ≤ 24; simp only [List.length_append, List.length_cons, List.length_nil]; decide) (by simp only [IDF]) (by simp only [IDF, and_tt, implies_true]) (by simp only [IDF, wr_idf, and_tt, implies_true]) ?_
  rw [Tryz.ntmps56]
  refine wpT_seq ?_
  refine wpT_region (by kernel_rfl) (fun K hK => ?_)
  simp only [↓SP, SX, SW, TY, EN, sv_w, ↓reduceIte, reduceCtorEq, Nat.reduceEqDiff, Nat.reduceAdd, Nat.reduceLeDiff, Nat.reduceLT, cyc_cs, ty140, ty138, wr_cells, wr_okc, wr_isAgg, wr_ld, wr_cs]
  refine hK _ _ ?_
  clear hK K
  refine wpT_seq ?_
  refine wpT_seq ?_
  refine wpT_region (by kernel_rfl) (fun K hK => ?_)
  simp only [↓SP, SX, SW, TY, EN, sv_w, ↓reduceIte, reduceCtorEq, Nat.reduceEqDiff, Nat.reduceAdd, Nat.reduceLeDiff, Nat.reduceLT, cyc_cs, ty140, ty138, wr_cells, wr_okc, wr_isAgg, wr_ld, wr_cs]
  refine hK _ _ ?_
  clear hK K
  refine wpT_block ?_
  refine wpT_loop ?_
  refine wpT_keep0 ?_
  refine wpT_ind (fun (i : Nat) tm' h' => (∃ m, h' = Hp.of [] m) ∧ tm' 0 = .lst (xs.map Wr.av) ∧ tm' 3 = I i ∧ i ≤ xs.length ∧ i ≤ 60 ∧ ∀ w ∈ xs.take i, w.data.length ≤ 24) (fun i => xs.length - i) ?_ 0 ⟨⟨_, rfl⟩, rfl, rfl, Nat.zero_le _, by omega, by simp⟩
  rintro i tm' _ ⟨⟨m, rfl⟩, e0, e3, hi, hi', hx⟩ IH
  refine wpT_inLoop ?_
  refine wpT_seq ?_
  refine wpT_seq ?_
  refine wpT_region (by kernel_rfl) (fun K hK => ?_)
  simp only [↓SP, SX, SW, TY, EN, sv_w, ↓reduceIte, reduceCtorEq, Nat.reduceEqDiff, Nat.reduceAdd, Nat.reduceLeDiff, Nat.reduceLT, cyc_cs, ty140, ty138, wr_cells, wr_okc, wr_isAgg, wr_ld, wr_cs, e0, e3]
  refine guardO_split (fun hg8 => ?_) (fun hg8 => ?_)
  · skip
    have p8 := hg8
    try simp only [decide_eq_true_eq, decide_eq_false_iff_not, beq_iff_eq, bne_iff_ne, beq_eq_false_iff_ne, bne_eq_false_iff_eq, Bool.not_eq_true', Bool.not_eq_false'] at p8
    simp only [↓SP, SX, SW, TY, EN, sv_w, ↓reduceIte, reduceCtorEq, Nat.reduceEqDiff, Nat.reduceAdd, Nat.reduceLeDiff, Nat.reduceLT, cyc_cs, ty140, ty138, wr_cells, wr_okc, wr_isAgg, wr_ld, wr_cs, e0, e3, hg8]
    refine hK _ _ ?_
    clear hK K
    refine wpT_if (by rfl) (fun hc11 => ?_) (fun hc11 => ?_)
    · skip
      have p11 := hc11
      try simp only [decide_eq_true_eq, decide_eq_false_iff_not, beq_iff_eq, bne_iff_ne, beq_eq_false_iff_ne, bne_eq_false_iff_eq, Bool.not_eq_true', Bool.not_eq_false'] at p11
      have hlt : i < xs.length := by omega
      have hlt' : i < 60 := by omega
      have hg := at_map (f := Wr.av) hlt
      refine wpT_skip ?_
      refine wpT_seq ?_
      refine wpT_block ?_
      refine wpT_seq ?_
      refine wpT_region (by kernel_rfl) (fun K hK => ?_)
      simp only [↓SP, SX, SW, TY, EN, sv_w, ↓reduceIte, reduceCtorEq, Nat.reduceEqDiff, Nat.reduceAdd, Nat.reduceLeDiff, Nat.reduceLT, cyc_cs, ty140, ty138, wr_cells, wr_okc, wr_isAgg, wr_ld, wr_cs, e0, e3, hg, hg8, hc11]
      refine hK _ _ ?_
      clear hK K
      refine wpT_if (by rfl) (fun hc20 => ?_) (fun hc20 => ?_)
      · skip
        have p20 := hc20
        try simp only [decide_eq_true_eq, decide_eq_false_iff_not, beq_iff_eq, bne_iff_ne, beq_eq_false_iff_ne, bne_eq_false_iff_eq, Bool.not_eq_true', Bool.not_eq_false'] at p20
        have hne : ¬ (xs.length ≤ 40 ∧ ∀ w ∈ xs, w.data.length ≤ 24) := fun h => by
          have := h.2 xs[i] (List.getElem_mem hlt)
          omega
        refine wpT_seq ?_
        refine wpT_region (by kernel_rfl) (fun K hK => ?_)
        simp only [↓SP, SX, SW, TY, EN, sv_w, ↓reduceIte, reduceCtorEq, Nat.reduceEqDiff, Nat.reduceAdd, Nat.reduceLeDiff, Nat.reduceLT, cyc_cs, ty140, ty138, wr_cells, wr_okc, wr_isAgg, wr_ld, wr_cs, hg8, hc11, hc20]
        refine hK _ _ ?_
        clear hK K
        refine wpT_ret ⟨.inr rfl, ?_⟩
        show optK (resA _ _ _ [.tmp 2]) _
        simp only [SR, Option.map_some, Option.bind_some, ↓SP, SX, SW, TY, EN, sv_w, ↓reduceIte, reduceCtorEq, Nat.reduceEqDiff, Nat.reduceAdd, Nat.reduceLeDiff, Nat.reduceLT, cyc_cs, ty140, ty138, wr_cells, wr_okc, wr_isAgg, wr_ld, wr_cs, hg8, hc11, hc20]
        refine Lend.eq ?_
        first
          | simp only [hne, decide_false]
          | (congr 1; simp only [he]; exact decide_eq_decide.2 (by omega))
      · skip
        have p20 := hc20
        try simp only [decide_eq_true_eq, decide_eq_false_iff_not, beq_iff_eq, bne_iff_ne, beq_eq_false_iff_ne, bne_eq_false_iff_eq, Bool.not_eq_true', Bool.not_eq_false'] at p20
        have hx' : ∀ w ∈ xs.take (i + 1), w.data.length ≤ 24 := by
          intro w hw
          rw [List.take_add_one, List.getElem?_eq_getElem hlt] at hw
          rcases List.mem_append.1 hw with h | h
          · exact hx w h
          · simp at h; subst h; omega
        refine wpT_skip ?_
        refine wpT_inBlock ?_
        refine wpT_region (by kernel_rfl) (fun K hK => ?_)
        simp only [↓SP, SX, SW, TY, EN, sv_w, ↓reduceIte, reduceCtorEq, Nat.reduceEqDiff, Nat.reduceAdd, Nat.reduceLeDiff, Nat.reduceLT, cyc_cs, ty140, ty138, wr_cells, wr_okc, wr_isAgg, wr_ld, wr_cs, e3, wrap64 (x := (i : Int) + 1) (by omega) (by omega), hg8, hc11, hc20]
        refine hK _ _ ?_
        clear hK K
        refine wpT_keep0 ?_
        refine IH (i + 1) _ _ (by omega) ⟨⟨_, rfl⟩, by simp only [↓SP, SX, SW, TY, EN, sv_w, ↓reduceIte, reduceCtorEq, Nat.reduceEqDiff, Nat.reduceAdd, Nat.reduceLeDiff, Nat.reduceLT, cyc_cs, e0], by simp only [↓SP, SX, SW, TY, EN, sv_w, ↓reduceIte, reduceCtorEq, Nat.reduceEqDiff, Nat.reduceAdd, Nat.reduceLeDiff, Nat.reduceLT, cyc_cs, Int.natCast_add, Int.cast_ofNat_Int], by omega, by omega, hx'⟩
    · skip
      have p11 := hc11
      try simp only [decide_eq_true_eq, decide_eq_false_iff_not, beq_iff_eq, bne_iff_ne, beq_eq_false_iff_ne, bne_eq_false_iff_eq, Bool.not_eq_true', Bool.not_eq_false'] at p11
      have he : (xs.length ≤ 40 ∧ ∀ w ∈ xs, w.data.length ≤ 24) = (xs.length ≤ 40) := by
        refine propext ⟨fun h => h.1, fun h => ⟨h, ?_⟩⟩
        have : i = xs.length ∨ 60 ≤ i := by omega
        rw [List.take_of_length_le (by omega)] at hx
        exact hx
      refine wpT_exit rfl ?_
      refine wpT_seq ?_
      refine wpT_region (by kernel_rfl) (fun K hK => ?_)
      simp only [↓SP, SX, SW, TY, EN, sv_w, ↓reduceIte, reduceCtorEq, Nat.reduceEqDiff, Nat.reduceAdd, Nat.reduceLeDiff, Nat.reduceLT, cyc_cs, ty140, ty138, wr_cells, wr_okc, wr_isAgg, wr_ld, wr_cs, e0, hg8, hc11]
      refine hK _ _ ?_
      clear hK K
      refine wpT_ret ⟨.inr rfl, ?_⟩
      show optK (resA _ _ _ [.tmp 2]) _
      simp only [SR, Option.map_some, Option.bind_some, ↓SP, SX, SW, TY, EN, sv_w, ↓reduceIte, reduceCtorEq, Nat.reduceEqDiff, Nat.reduceAdd, Nat.reduceLeDiff, Nat.reduceLT, cyc_cs, ty140, ty138, wr_cells, wr_okc, wr_isAgg, wr_ld, wr_cs, hg8, hc11]
      refine Lend.eq ?_
      first
        | simp only [hne, decide_false]
        | (congr 1; simp only [he]; exact decide_eq_decide.2 (by omega))
  · skip
    simp only [Bool.not_true, Bool.not_false] at hg8
    have p8 := hg8
    try simp only [decide_eq_true_eq, decide_eq_false_iff_not, beq_iff_eq, bne_iff_ne, beq_eq_false_iff_ne, bne_eq_false_iff_eq, Bool.not_eq_true', Bool.not_eq_false'] at p8
    simp only [↓SP, SX, SW, TY, EN, sv_w, ↓reduceIte, reduceCtorEq, Nat.reduceEqDiff, Nat.reduceAdd, Nat.reduceLeDiff, Nat.reduceLT, cyc_cs, ty140, ty138, wr_cells, wr_okc, wr_isAgg, wr_ld, wr_cs, e0, e3, hg8]
    refine hK _ _ ?_
    clear hK K
    refine wpT_ifF (by simp only [↓SP, SX, SW, TY, EN, sv_w, ↓reduceIte, reduceCtorEq, Nat.reduceEqDiff, Nat.reduceAdd, Nat.reduceLeDiff, Nat.reduceLT, cyc_cs, ty140, ty138, wr_cells, wr_okc, wr_isAgg, wr_ld, wr_cs, hg8]) ?_
    have he : (xs.length ≤ 40 ∧ ∀ w ∈ xs, w.data.length ≤ 24) = (xs.length ≤ 40) := by
      refine propext ⟨fun h => h.1, fun h => ⟨h, ?_⟩⟩
      have : i = xs.length ∨ 60 ≤ i := by omega
      rw [List.take_of_length_le (by omega)] at hx
      exact hx
    refine wpT_exit rfl ?_
    refine wpT_seq ?_
    refine wpT_region (by kernel_rfl) (fun K hK => ?_)
    simp only [↓SP, SX, SW, TY, EN, sv_w, ↓reduceIte, reduceCtorEq, Nat.reduceEqDiff, Nat.reduceAdd, Nat.reduceLeDiff, Nat.reduceLT, cyc_cs, ty140, ty138, wr_cells, wr_okc, wr_isAgg, wr_ld, wr_cs, e0, hg8]
    refine hK _ _ ?_
    clear hK K
    refine wpT_ret ⟨.inr rfl, ?_⟩
    show optK (resA _ _ _ [.tmp 2]) _
    simp only [SR, Option.map_some, Option.bind_some, ↓SP, SX, SW, TY, EN, sv_w, ↓reduceIte, reduceCtorEq, Nat.reduceEqDiff, Nat.reduceAdd, Nat.reduceLeDiff, Nat.reduceLT, cyc_cs, ty140, ty138, wr_cells, wr_okc, wr_isAgg, wr_ld, wr_cs, hg8]
    refine Lend.eq ?_
    first
      | simp only [hne, decide_false]
      | (congr 1; simp only [he]; exact decide_eq_decide.2 (by omega))
theorem c19 (x : Cyc) (hx : x.ok) : Pu Tryz.prog (.fn (.func 19) [] []) [x.av] (B (decide (fewC x))) := by
  refine pu_func Tryz.func19 rfl (by kernel_rfl) (by show _ ≤ 12; simp only [List.length_append, List.length_cons, List.length_nil]; decide) (by simp only [IDF]) (by simp only [IDF, and_tt, implies_true]) (by simp only [IDF, cyc_idf, and_tt, implies_true]) ?_
  rw [Tryz.ntmps19]
  refine wpT_seq ?_
  refine wpT_region (by kernel_rfl) (fun K hK => ?_)
  simp only [↓SP, SX, SW, TY, EN, sv_w, ↓reduceIte, reduceCtorEq, Nat.reduceEqDiff, Nat.reduceAdd, Nat.reduceLeDiff, Nat.reduceLT, cyc_cs, Cyc.av]
  refine hK _ _ ?_
  clear hK K
  refine wpT_seq ?_
  refine wpT_region (by kernel_rfl) (fun K hK => ?_)
  simp only [↓SP, SX, SW, TY, EN, sv_w, ↓reduceIte, reduceCtorEq, Nat.reduceEqDiff, Nat.reduceAdd, Nat.reduceLeDiff, Nat.reduceLT, cyc_cs, Cyc.av]
  refine guardO_split (fun hg7 => ?_) (fun hg7 => ?_)
  · skip
    have p7 := hg7
    try simp only [decide_eq_true_eq, decide_eq_false_iff_not, beq_iff_eq, bne_iff_ne, beq_eq_false_iff_ne, bne_eq_false_iff_eq, Bool.not_eq_true', Bool.not_eq_false'] at p7
    simp only [↓SP, SX, SW, TY, EN, sv_w, ↓reduceIte, reduceCtorEq, Nat.reduceEqDiff, Nat.reduceAdd, Nat.reduceLeDiff, Nat.reduceLT, cyc_cs, Cyc.av, hg7]
    refine Pu.call (c56 _ hx.2.1) ?_
    simp only [↓SP, SX, SW, TY, EN, sv_w, ↓reduceIte, reduceCtorEq, Nat.reduceEqDiff, Nat.reduceAdd, Nat.reduceLeDiff, Nat.reduceLT, cyc_cs, Cyc.av, hg7]
    refine hK _ _ ?_
    clear hK K
    refine wpT_ret ⟨.inr rfl, ?_⟩
    show optK (resA _ _ _ [.tmp 2]) _
    simp only [SR, Option.map_some, Option.bind_some, ↓SP, SX, SW, TY, EN, sv_w, ↓reduceIte, reduceCtorEq, Nat.reduceEqDiff, Nat.reduceAdd, Nat.reduceLeDiff, Nat.reduceLT, cyc_cs, Cyc.av, hg7]
    refine Lend.eq ?_
    congr 1
    first
      | (have q : x.pos.length ≤ 40 := by omega
         simp only [fewC, q, true_and])
      | (have q : ¬ x.pos.length ≤ 40 := by omega
         simp only [fewC, q, false_and, decide_false])
  · skip
    simp only [Bool.not_true, Bool.not_false] at hg7
    have p7 := hg7
    try simp only [decide_eq_true_eq, decide_eq_false_iff_not, beq_iff_eq, bne_iff_ne, beq_eq_false_iff_ne, bne_eq_false_iff_eq, Bool.not_eq_true', Bool.not_eq_false'] at p7
    simp only [↓SP, SX, SW, TY, EN, sv_w, ↓reduceIte, reduceCtorEq, Nat.reduceEqDiff, Nat.reduceAdd, Nat.reduceLeDiff, Nat.reduceLT, cyc_cs, Cyc.av, hg7]
    refine hK _ _ ?_
    clear hK K
    refine wpT_ret ⟨.inr rfl, ?_⟩
    show optK (resA _ _ _ [.tmp 2]) _
    simp only [SR, Option.map_some, Option.bind_some, ↓SP, SX, SW, TY, EN, sv_w, ↓reduceIte, reduceCtorEq, Nat.reduceEqDiff, Nat.reduceAdd, Nat.reduceLeDiff, Nat.reduceLT, cyc_cs, Cyc.av, hg7]
    refine Lend.eq ?_
    congr 1
    first
      | (have q : x.pos.length ≤ 40 := by omega
         simp only [fewC, q, true_and])
      | (have q : ¬ x.pos.length ≤ 40 := by omega
         simp only [fewC, q, false_and, decide_false])
theorem fan_ext {x y : Fan} (h1 : x.limit = y.limit) (h2 : x.kept = y.kept) (h3 : x.app = y.app) (h4 : x.lost = y.lost) : x = y := by cases x; cases y; simp_all
def fewF (f : Fan) : Prop := f.kept.length ≤ 16 ∧ f.app.length ≤ 10 ∧ f.lost.length ≤ 10 ∧ ∀ c ∈ f.kept, fewC c
instance (f : Fan) : Decidable (fewF f) := inferInstanceAs (Decidable (_ ∧ _ ∧ _ ∧ _))
theorem c18 (f : Fan) (hf : f.ok) : Pu Tryz.prog (.fn (.func 18) [] []) [f.av] (B (decide (fewF f))) := by
  refine pu_func Tryz.func18 rfl (by kernel_rfl) (by show _ ≤ 38; simp only [List.length_append, List.length_cons, List.length_nil]; decide) (by simp only [IDF]) (by simp only [IDF, and_tt, implies_true]) (by simp only [IDF, fan_idf, and_tt, implies_true]) ?_
  rw [Tryz.ntmps18]
  refine wpT_seq ?_
  refine wpT_region (by kernel_rfl) (fun K hK => ?_)
  simp only [↓SP, SX, SW, TY, EN, sv_w, ↓reduceIte, reduceCtorEq, Nat.reduceEqDiff, Nat.reduceAdd, Nat.reduceLeDiff, Nat.reduceLT, Fan.av]
  refine hK _ _ ?_
  clear hK K
  refine wpT_seq ?_
  refine wpT_seq ?_
  refine wpT_region (by kernel_rfl) (fun K hK => ?_)
  simp only [↓SP, SX, SW, TY, EN, sv_w, ↓reduceIte, reduceCtorEq, Nat.reduceEqDiff, Nat.reduceAdd, Nat.reduceLeDiff, Nat.reduceLT, Fan.av]
  refine hK _ _ ?_
  clear hK K
  refine wpT_block ?_
  refine wpT_loop ?_
  refine wpT_keep1 (i := 0) (o := .arr 49 4 [f.av]) (by simp only [↓SP, SX, SW, TY, EN, sv_w, ↓reduceIte, reduceCtorEq, Nat.reduceEqDiff, Nat.reduceAdd, Nat.reduceLeDiff, Nat.reduceLT, Fan.av]) ?_
  refine wpT_ind (fun (i : Nat) tm' h' => (∃ m, h' = Hp.of [(0, .arr 49 4 [f.av])] (m + 1)) ∧ tm' 1 = .ptr 0 1 0 0 ∧ tm' 3 = I i ∧ i ≤ f.kept.length ∧ i ≤ 20 ∧ ∀ c ∈ f.kept.take i, fewC c) (fun i => f.kept.length - i) ?_ 0 ⟨⟨0, rfl⟩, rfl, rfl, Nat.zero_le _, by omega, by simp⟩
  rintro i tm' _ ⟨⟨m, rfl⟩, e1, e3, hi, hi', hx⟩ IH
  refine wpT_inLoop ?_
  refine wpT_seq ?_
  refine wpT_seq ?_
  refine wpT_region (by kernel_rfl) (fun K hK => ?_)
  simp only [↓SP, SX, SW, TY, EN, sv_w, ↓reduceIte, reduceCtorEq, Nat.reduceEqDiff, Nat.reduceAdd, Nat.reduceLeDiff, Nat.reduceLT, Fan.av, e1, e3]
  refine guardO_split (fun hg9 => ?_) (fun hg9 => ?_)
  · skip
    have p9 := hg9
    try simp only [decide_eq_true_eq, decide_eq_false_iff_not, beq_iff_eq, bne_iff_ne, beq_eq_false_iff_ne, bne_eq_false_iff_eq, Bool.not_eq_true', Bool.not_eq_false'] at p9
    simp only [↓SP, SX, SW, TY, EN, sv_w, ↓reduceIte, reduceCtorEq, Nat.reduceEqDiff, Nat.reduceAdd, Nat.reduceLeDiff, Nat.reduceLT, Fan.av, e1, e3, hg9]
    refine hK _ _ ?_
    clear hK K
    refine wpT_if (by rfl) (fun hc12 => ?_) (fun hc12 => ?_)
    · skip
      have p12 := hc12
      try simp only [decide_eq_true_eq, decide_eq_false_iff_not, beq_iff_eq, bne_iff_ne, beq_eq_false_iff_ne, bne_eq_false_iff_eq, Bool.not_eq_true', Bool.not_eq_false'] at p12
      have hlt : i < f.kept.length := by omega
      have hlt' : i < 20 := by omega
      have hg := at_map (f := Cyc.av) hlt
      refine wpT_skip ?_
      refine wpT_seq ?_
      refine wpT_block ?_
      refine wpT_seq ?_
      refine wpT_region (by kernel_rfl) (fun K hK => ?_)
      simp only [↓SP, SX, SW, TY, EN, sv_w, ↓reduceIte, reduceCtorEq, Nat.reduceEqDiff, Nat.reduceAdd, Nat.reduceLeDiff, Nat.reduceLT, Fan.av, e1, e3, hg, hg9, hc12]
      refine Pu.call (c19 _ (hf.2.2.2 _ (List.getElem_mem hlt))) ?_
      simp only [↓SP, SX, SW, TY, EN, sv_w, ↓reduceIte, reduceCtorEq, Nat.reduceEqDiff, Nat.reduceAdd, Nat.reduceLeDiff, Nat.reduceLT, Fan.av, e1, e3, hg, hg9, hc12]
      refine hK _ _ ?_
      clear hK K
      refine wpT_if (by rfl) (fun hc21 => ?_) (fun hc21 => ?_)
      · skip
        have p21 := hc21
        try simp only [decide_eq_true_eq, decide_eq_false_iff_not, beq_iff_eq, bne_iff_ne, beq_eq_false_iff_ne, bne_eq_false_iff_eq, Bool.not_eq_true', Bool.not_eq_false'] at p21
        have hne : ¬ fewF f := fun h => by
          exact p21 (h.2.2.2 f.kept[i] (List.getElem_mem hlt))
        refine wpT_seq ?_
        refine wpT_region (by kernel_rfl) (fun K hK => ?_)
        simp only [↓SP, SX, SW, TY, EN, sv_w, ↓reduceIte, reduceCtorEq, Nat.reduceEqDiff, Nat.reduceAdd, Nat.reduceLeDiff, Nat.reduceLT, Fan.av, hg9, hc12, hc21]
        refine hK _ _ ?_
        clear hK K
        refine wpT_ret ⟨.inr rfl, ?_⟩
        show optK (resA _ _ _ [.tmp 2]) _
        simp only [SR, Option.map_some, Option.bind_some, ↓SP, SX, SW, TY, EN, sv_w, ↓reduceIte, reduceCtorEq, Nat.reduceEqDiff, Nat.reduceAdd, Nat.reduceLeDiff, Nat.reduceLT, Fan.av, hg9, hc12, hc21]
        refine Lend.eq ?_
        congr 1
        first
          | (exfalso; omega)
          | simp only [hne, decide_false]
          | (have hn' := hn (by omega)
             simp only [hn', decide_false])
          | (have he' := he (by omega)
             simp only [he']
             first
               | (have q : f.app.length ≤ 10 := by omega
                  simp only [q, true_and]
                  exact decide_eq_decide.2 (by omega))
               | (have q : ¬ f.app.length ≤ 10 := by omega
                  simp only [q, false_and, decide_false]))
      · skip
        have p21 := hc21
        try simp only [decide_eq_true_eq, decide_eq_false_iff_not, beq_iff_eq, bne_iff_ne, beq_eq_false_iff_ne, bne_eq_false_iff_eq, Bool.not_eq_true', Bool.not_eq_false'] at p21
        have hx' : ∀ w ∈ f.kept.take (i + 1), fewC w := by
          intro w hw
          rw [List.take_add_one, List.getElem?_eq_getElem hlt] at hw
          rcases List.mem_append.1 hw with h | h
          · exact hx w h
          · simp at h; subst h; exact p21
        refine wpT_skip ?_
        refine wpT_inBlock ?_
        refine wpT_region (by kernel_rfl) (fun K hK => ?_)
        simp only [↓SP, SX, SW, TY, EN, sv_w, ↓reduceIte, reduceCtorEq, Nat.reduceEqDiff, Nat.reduceAdd, Nat.reduceLeDiff, Nat.reduceLT, Fan.av, e3, wrap64 (x := (i : Int) + 1) (by omega) (by omega), hg9, hc12, hc21]
        refine hK _ _ ?_
        clear hK K
        refine wpT_keep1 (i := 0) (o := .arr 49 4 [f.av]) (by simp only [↓SP, SX, SW, TY, EN, sv_w, ↓reduceIte, reduceCtorEq, Nat.reduceEqDiff, Nat.reduceAdd, Nat.reduceLeDiff, Nat.reduceLT, Fan.av]) ?_
        refine IH (i + 1) _ _ (by omega) ⟨⟨_, rfl⟩, by simp only [↓SP, SX, SW, TY, EN, sv_w, ↓reduceIte, reduceCtorEq, Nat.reduceEqDiff, Nat.reduceAdd, Nat.reduceLeDiff, Nat.reduceLT, Fan.av, e1], by simp only [↓SP, SX, SW, TY, EN, sv_w, ↓reduceIte, reduceCtorEq, Nat.reduceEqDiff, Nat.reduceAdd, Nat.reduceLeDiff, Nat.reduceLT, Fan.av, Int.natCast_add, Int.cast_ofNat_Int], by omega, by omega, hx'⟩
    · skip
      have p12 := hc12
      try simp only [decide_eq_true_eq, decide_eq_false_iff_not, beq_iff_eq, bne_iff_ne, beq_eq_false_iff_ne, bne_eq_false_iff_eq, Bool.not_eq_true', Bool.not_eq_false'] at p12
      have he : f.kept.length ≤ 16 → fewF f = (f.app.length ≤ 10 ∧ f.lost.length ≤ 10) := by
        intro h
        rw [List.take_of_length_le (by omega)] at hx
        exact propext ⟨fun h => ⟨h.2.1, h.2.2.1⟩, fun h' => ⟨h, h'.1, h'.2, hx⟩⟩
      have hn : ¬ f.kept.length ≤ 16 → ¬ fewF f := fun h h' => h h'.1
      refine wpT_exit rfl ?_
      refine wpT_seq ?_
      refine wpT_region (by kernel_rfl) (fun K hK => ?_)
      simp only [↓SP, SX, SW, TY, EN, sv_w, ↓reduceIte, reduceCtorEq, Nat.reduceEqDiff, Nat.reduceAdd, Nat.reduceLeDiff, Nat.reduceLT, Fan.av, e1, hg9, hc12]
      refine guardO_split (fun hg26 => ?_) (fun hg26 => ?_)
      · skip
        have p26 := hg26
        try simp only [decide_eq_true_eq, decide_eq_false_iff_not, beq_iff_eq, bne_iff_ne, beq_eq_false_iff_ne, bne_eq_false_iff_eq, Bool.not_eq_true', Bool.not_eq_false'] at p26
        simp only [↓SP, SX, SW, TY, EN, sv_w, ↓reduceIte, reduceCtorEq, Nat.reduceEqDiff, Nat.reduceAdd, Nat.reduceLeDiff, Nat.reduceLT, Fan.av, e1, hg9, hc12, hg26]
        refine guardO_split (fun hg32 => ?_) (fun hg32 => ?_)
        · skip
          have p32 := hg32
          try simp only [decide_eq_true_eq, decide_eq_false_iff_not, beq_iff_eq, bne_iff_ne, beq_eq_false_iff_ne, bne_eq_false_iff_eq, Bool.not_eq_true', Bool.not_eq_false'] at p32
          simp only [↓SP, SX, SW, TY, EN, sv_w, ↓reduceIte, reduceCtorEq, Nat.reduceEqDiff, Nat.reduceAdd, Nat.reduceLeDiff, Nat.reduceLT, Fan.av, e1, hg9, hc12, hg26, hg32]
          refine hK _ _ ?_
          clear hK K
          refine wpT_ret ⟨.inr rfl, ?_⟩
          show optK (resA _ _ _ [.tmp 2]) _
          simp only [SR, Option.map_some, Option.bind_some, ↓SP, SX, SW, TY, EN, sv_w, ↓reduceIte, reduceCtorEq, Nat.reduceEqDiff, Nat.reduceAdd, Nat.reduceLeDiff, Nat.reduceLT, Fan.av, hg9, hc12, hg26, hg32]
          refine Lend.eq ?_
          congr 1
          first
            | (exfalso; omega)
            | simp only [hne, decide_false]
            | (have hn' := hn (by omega)
               simp only [hn', decide_false])
            | (have he' := he (by omega)
               simp only [he']
               first
                 | (have q : f.app.length ≤ 10 := by omega
                    simp only [q, true_and]
                    exact decide_eq_decide.2 (by omega))
                 | (have q : ¬ f.app.length ≤ 10 := by omega
                    simp only [q, false_and, decide_false]))
        · skip
          simp only [Bool.not_true, Bool.not_false] at hg32
          have p32 := hg32
          try simp only [decide_eq_true_eq, decide_eq_false_iff_not, beq_iff_eq, bne_iff_ne, beq_eq_false_iff_ne, bne_eq_false_iff_eq, Bool.not_eq_true', Bool.not_eq_false'] at p32
          simp only [↓SP, SX, SW, TY, EN, sv_w, ↓reduceIte, reduceCtorEq, Nat.reduceEqDiff, Nat.reduceAdd, Nat.reduceLeDiff, Nat.reduceLT, Fan.av, e1, hg9, hc12, hg26, hg32]
          refine hK _ _ ?_
          clear hK K
          refine wpT_ret ⟨.inr rfl, ?_⟩
          show optK (resA _ _ _ [.tmp 2]) _
          simp only [SR, Option.map_some, Option.bind_some, ↓SP, SX, SW, TY, EN, sv_w, ↓reduceIte, reduceCtorEq, Nat.reduceEqDiff, Nat.reduceAdd, Nat.reduceLeDiff, Nat.reduceLT, Fan.av, hg9, hc12, hg26, hg32]
          refine Lend.eq ?_
          congr 1
          first
            | (exfalso; omega)
            | simp only [hne, decide_false]
            | (have hn' := hn (by omega)
               simp only [hn', decide_false])
            | (have he' := he (by omega)
               simp only [he']
               first
                 | (have q : f.app.length ≤ 10 := by omega
                    simp only [q, true_and]
                    exact decide_eq_decide.2 (by omega))
                 | (have q : ¬ f.app.length ≤ 10 := by omega
                    simp only [q, false_and, decide_false]))
      · skip
        simp only [Bool.not_true, Bool.not_false] at hg26
        have p26 := hg26
        try simp only [decide_eq_true_eq, decide_eq_false_iff_not, beq_iff_eq, bne_iff_ne, beq_eq_false_iff_ne, bne_eq_false_iff_eq, Bool.not_eq_true', Bool.not_eq_false'] at p26
        simp only [↓SP, SX, SW, TY, EN, sv_w, ↓reduceIte, reduceCtorEq, Nat.reduceEqDiff, Nat.reduceAdd, Nat.reduceLeDiff, Nat.reduceLT, Fan.av, e1, hg9, hc12, hg26]
        refine hK _ _ ?_
        clear hK K
        refine wpT_ret ⟨.inr rfl, ?_⟩
        show optK (resA _ _ _ [.tmp 2]) _
        simp only [SR, Option.map_some, Option.bind_some, ↓SP, SX, SW, TY, EN, sv_w, ↓reduceIte, reduceCtorEq, Nat.reduceEqDiff, Nat.reduceAdd, Nat.reduceLeDiff, Nat.reduceLT, Fan.av, hg9, hc12, hg26]
        refine Lend.eq ?_
        congr 1
        first
          | (exfalso; omega)
          | simp only [hne, decide_false]
          | (have hn' := hn (by omega)
             simp only [hn', decide_false])
          | (have he' := he (by omega)
             simp only [he']
             first
               | (have q : f.app.length ≤ 10 := by omega
                  simp only [q, true_and]
                  exact decide_eq_decide.2 (by omega))
               | (have q : ¬ f.app.length ≤ 10 := by omega
                  simp only [q, false_and, decide_false]))
  · skip
    simp only [Bool.not_true, Bool.not_false] at hg9
    have p9 := hg9
    try simp only [decide_eq_true_eq, decide_eq_false_iff_not, beq_iff_eq, bne_iff_ne, beq_eq_false_iff_ne, bne_eq_false_iff_eq, Bool.not_eq_true', Bool.not_eq_false'] at p9
    simp only [↓SP, SX, SW, TY, EN, sv_w, ↓reduceIte, reduceCtorEq, Nat.reduceEqDiff, Nat.reduceAdd, Nat.reduceLeDiff, Nat.reduceLT, Fan.av, e1, e3, hg9]
    refine hK _ _ ?_
    clear hK K
    refine wpT_ifF (by simp only [↓SP, SX, SW, TY, EN, sv_w, ↓reduceIte, reduceCtorEq, Nat.reduceEqDiff, Nat.reduceAdd, Nat.reduceLeDiff, Nat.reduceLT, Fan.av, hg9]) ?_
    have he : f.kept.length ≤ 16 → fewF f = (f.app.length ≤ 10 ∧ f.lost.length ≤ 10) := by
      intro h
      rw [List.take_of_length_le (by omega)] at hx
      exact propext ⟨fun h => ⟨h.2.1, h.2.2.1⟩, fun h' => ⟨h, h'.1, h'.2, hx⟩⟩
    have hn : ¬ f.kept.length ≤ 16 → ¬ fewF f := fun h h' => h h'.1
    refine wpT_exit rfl ?_
    refine wpT_seq ?_
    refine wpT_region (by kernel_rfl) (fun K hK => ?_)
    simp only [↓SP, SX, SW, TY, EN, sv_w, ↓reduceIte, reduceCtorEq, Nat.reduceEqDiff, Nat.reduceAdd, Nat.reduceLeDiff, Nat.reduceLT, Fan.av, e1, hg9]
    refine guardO_split (fun hg26 => ?_) (fun hg26 => ?_)
    · skip
      have p26 := hg26
      try simp only [decide_eq_true_eq, decide_eq_false_iff_not, beq_iff_eq, bne_iff_ne, beq_eq_false_iff_ne, bne_eq_false_iff_eq, Bool.not_eq_true', Bool.not_eq_false'] at p26
      simp only [↓SP, SX, SW, TY, EN, sv_w, ↓reduceIte, reduceCtorEq, Nat.reduceEqDiff, Nat.reduceAdd, Nat.reduceLeDiff, Nat.reduceLT, Fan.av, e1, hg9, hg26]
      refine guardO_split (fun hg32 => ?_) (fun hg32 => ?_)
      · skip
        have p32 := hg32
        try simp only [decide_eq_true_eq, decide_eq_false_iff_not, beq_iff_eq, bne_iff_ne, beq_eq_false_iff_ne, bne_eq_false_iff_eq, Bool.not_eq_true', Bool.not_eq_false'] at p32
        simp only [↓SP, SX, SW, TY, EN, sv_w, ↓reduceIte, reduceCtorEq, Nat.reduceEqDiff, Nat.reduceAdd, Nat.reduceLeDiff, Nat.reduceLT, Fan.av, e1, hg9, hg26, hg32]
        refine hK _ _ ?_
        clear hK K
        refine wpT_ret ⟨.inr rfl, ?_⟩
        show optK (resA _ _ _ [.tmp 2]) _
        simp only [SR, Option.map_some, Option.bind_some, ↓SP, SX, SW, TY, EN, sv_w, ↓reduceIte, reduceCtorEq, Nat.reduceEqDiff, Nat.reduceAdd, Nat.reduceLeDiff, Nat.reduceLT, Fan.av, hg9, hg26, hg32]
        refine Lend.eq ?_
        congr 1
        first
          | (exfalso; omega)
          | simp only [hne, decide_false]
          | (have hn' := hn (by omega)
             simp only [hn', decide_false])
          | (have he' := he (by omega)
             simp only [he']
             first
               | (have q : f.app.length ≤ 10 := by omega
                  simp only [q, true_and]
                  exact decide_eq_decide.2 (by omega))
               | (have q : ¬ f.app.length ≤ 10 := by omega
                  simp only [q, false_and, decide_false]))
      · skip
        simp only [Bool.not_true, Bool.not_false] at hg32
        have p32 := hg32
        try simp only [decide_eq_true_eq, decide_eq_false_iff_not, beq_iff_eq, bne_iff_ne, beq_eq_false_iff_ne, bne_eq_false_iff_eq, Bool.not_eq_true', Bool.not_eq_false'] at p32
        simp only [↓SP, SX, SW, TY, EN, sv_w, ↓reduceIte, reduceCtorEq, Nat.reduceEqDiff, Nat.reduceAdd, Nat.reduceLeDiff, Nat.reduceLT, Fan.av, e1, hg9, hg26, hg32]
        refine hK _ _ ?_
        clear hK K
        refine wpT_ret ⟨.inr rfl, ?_⟩
        show optK (resA _ _ _ [.tmp 2]) _
        simp only [SR, Option.map_some, Option.bind_some, ↓SP, SX, SW, TY, EN, sv_w, ↓reduceIte, reduceCtorEq, Nat.reduceEqDiff, Nat.reduceAdd, Nat.reduceLeDiff, Nat.reduceLT, Fan.av, hg9, hg26, hg32]
        refine Lend.eq ?_
        congr 1
        first
          | (exfalso; omega)
          | simp only [hne, decide_false]
          | (have hn' := hn (by omega)
             simp only [hn', decide_false])
          | (have he' := he (by omega)
             simp only [he']
             first
               | (have q : f.app.length ≤ 10 := by omega
                  simp only [q, true_and]
                  exact decide_eq_decide.2 (by omega))
               | (have q : ¬ f.app.length ≤ 10 := by omega
                  simp only [q, false_and, decide_false]))
    · skip
      simp only [Bool.not_true, Bool.not_false] at hg26
      have p26 := hg26
      try simp only [decide_eq_true_eq, decide_eq_false_iff_not, beq_iff_eq, bne_iff_ne, beq_eq_false_iff_ne, bne_eq_false_iff_eq, Bool.not_eq_true', Bool.not_eq_false'] at p26
      simp only [↓SP, SX, SW, TY, EN, sv_w, ↓reduceIte, reduceCtorEq, Nat.reduceEqDiff, Nat.reduceAdd, Nat.reduceLeDiff, Nat.reduceLT, Fan.av, e1, hg9, hg26]
      refine hK _ _ ?_
      clear hK K
      refine wpT_ret ⟨.inr rfl, ?_⟩
      show optK (resA _ _ _ [.tmp 2]) _
      simp only [SR, Option.map_some, Option.bind_some, ↓SP, SX, SW, TY, EN, sv_w, ↓reduceIte, reduceCtorEq, Nat.reduceEqDiff, Nat.reduceAdd, Nat.reduceLeDiff, Nat.reduceLT, Fan.av, hg9, hg26]
      refine Lend.eq ?_
      congr 1
      first
        | (exfalso; omega)
        | simp only [hne, decide_false]
        | (have hn' := hn (by omega)
           simp only [hn', decide_false])
        | (have he' := he (by omega)
           simp only [he']
           first
             | (have q : f.app.length ≤ 10 := by omega
                simp only [q, true_and]
                exact decide_eq_decide.2 (by omega))
             | (have q : ¬ f.app.length ≤ 10 := by omega
                simp only [q, false_and, decide_false]))
end Go.Proofs.YtlmjpgmaefokdaaGreat
end

section
set_option linter.unusedSimpArgs false
set_option linter.unusedVariables false
namespace Go.Proofs.YtlmjpgmaefokdaaGreat
open Go.Proofs
set_option maxRecDepth 10000
theorem bin_neqb {t : TypeId} (h : isBoolT Tryz.prog t = true) (a b : Bool) : opBinAny Tryz.prog .neq t (.bool a) (.bool b) = some (.bool (!(a == b))) := by simp [opBinAny, opBin, opEq, h]
theorem neqb (a b : Bool) : opBinAny Tryz.prog .neq 4 (.bool a) (.bool b) = some (.bool (!(a == b))) := bin_neqb ib4 a b
theorem c25 (x y : Fan) (hx : x.ok) : Pu Tryz.prog (.fn (.func 25) [] []) [x.av, y.av] (B (decide (x = y))) := by
  refine pu_func Tryz.func25 rfl (by kernel_rfl) (by show _ ≤ 75; simp only [List.length_append, List.length_cons, List.length_nil]; decide) (by simp only [IDF]) (by simp only [IDF, and_tt, implies_true]) (by simp only [IDF, fan_idf, and_tt, implies_true]) ?_
  rw [Tryz.ntmps25]
  refine wpT_seq ?_
  refine wpT_region (by kernel_rfl) (fun K hK => ?_)
  simp only [↓SP, SX, SW, TY, EN, sv_w, ↓reduceIte, reduceCtorEq, Nat.reduceEqDiff, Nat.reduceAdd, Nat.reduceLeDiff, Nat.reduceLT, Fan.av]
  refine hK _ _ ?_
  clear hK K
  refine wpT_seq ?_
  refine wpT_seq ?_
  refine wpT_region (by kernel_rfl) (fun K hK => ?_)
  simp only [↓SP, SX, SW, TY, EN, sv_w, ↓reduceIte, reduceCtorEq, Nat.reduceEqDiff, Nat.reduceAdd, Nat.reduceLeDiff, Nat.reduceLT, Fan.av]
  refine guardO_split (fun hg12 => ?_) (fun hg12 => ?_)
  · skip
    have p12 := hg12
    try simp only [decide_eq_true_eq, decide_eq_false_iff_not, beq_iff_eq, bne_iff_ne, beq_eq_false_iff_ne, bne_eq_false_iff_eq, Bool.not_eq_true', Bool.not_eq_false'] at p12
    simp only [↓SP, SX, SW, TY, EN, sv_w, ↓reduceIte, reduceCtorEq, Nat.reduceEqDiff, Nat.reduceAdd, Nat.reduceLeDiff, Nat.reduceLT, Fan.av, hg12]
    refine Pu.call (c91 _ _ hx.2.1) ?_
    simp only [↓SP, SX, SW, TY, EN, sv_w, ↓reduceIte, reduceCtorEq, Nat.reduceEqDiff, Nat.reduceAdd, Nat.reduceLeDiff, Nat.reduceLT, Fan.av, hg12]
    refine guardO_split (fun hg20 => ?_) (fun hg20 => ?_)
    · skip
      have p20 := hg20
      try simp only [decide_eq_true_eq, decide_eq_false_iff_not, beq_iff_eq, bne_iff_ne, beq_eq_false_iff_ne, bne_eq_false_iff_eq, Bool.not_eq_true', Bool.not_eq_false'] at p20
      simp only [↓SP, SX, SW, TY, EN, sv_w, ↓reduceIte, reduceCtorEq, Nat.reduceEqDiff, Nat.reduceAdd, Nat.reduceLeDiff, Nat.reduceLT, Fan.av, hg12, hg20]
      refine guardO_split (fun hg29 => ?_) (fun hg29 => ?_)
      · skip
        have p29 := hg29
        try simp only [decide_eq_true_eq, decide_eq_false_iff_not, beq_iff_eq, bne_iff_ne, beq_eq_false_iff_ne, bne_eq_false_iff_eq, Bool.not_eq_true', Bool.not_eq_false'] at p29
        simp only [↓SP, SX, SW, TY, EN, sv_w, ↓reduceIte, reduceCtorEq, Nat.reduceEqDiff, Nat.reduceAdd, Nat.reduceLeDiff, Nat.reduceLT, Fan.av, hg12, hg20, hg29]
        refine hK _ _ ?_
        clear hK K
        refine wpT_if (by rfl) (fun hc37 => ?_) (fun hc37 => ?_)
        · skip
          have p37 := hc37
          try simp only [decide_eq_true_eq, decide_eq_false_iff_not, beq_iff_eq, bne_iff_ne, beq_eq_false_iff_ne, bne_eq_false_iff_eq, Bool.not_eq_true', Bool.not_eq_false'] at p37
          have hne : x ≠ y := by rintro rfl; simp_all
          refine wpT_seq ?_
          refine wpT_region (by kernel_rfl) (fun K hK => ?_)
          simp only [↓SP, SX, SW, TY, EN, sv_w, ↓reduceIte, reduceCtorEq, Nat.reduceEqDiff, Nat.reduceAdd, Nat.reduceLeDiff, Nat.reduceLT, Fan.av, hg12, hg20, hg29, hc37]
          refine hK _ _ ?_
          clear hK K
          refine wpT_ret ⟨.inr rfl, ?_⟩
          show optK (resA _ _ _ [.tmp 4]) _
          simp only [SR, Option.map_some, Option.bind_some, ↓SP, SX, SW, TY, EN, sv_w, ↓reduceIte, reduceCtorEq, Nat.reduceEqDiff, Nat.reduceAdd, Nat.reduceLeDiff, Nat.reduceLT, Fan.av, hg12, hg20, hg29, hc37]
          refine Lend.eq ?_
          first
            | simp only [hne, decide_false]
            | simp only [he, decide_true]
        · skip
          have p37 := hc37
          try simp only [decide_eq_true_eq, decide_eq_false_iff_not, beq_iff_eq, bne_iff_ne, beq_eq_false_iff_ne, bne_eq_false_iff_eq, Bool.not_eq_true', Bool.not_eq_false'] at p37
          have h1 : x.limit = y.limit := by simp_all
          have h2 : x.app = y.app := by simp_all
          have h3 : x.kept.length = y.kept.length := by omega
          have h4 : x.lost.length = y.lost.length := by omega
          refine wpT_skip ?_
          refine wpT_seq ?_
          refine wpT_seq ?_
          refine wpT_region (by kernel_rfl) (fun K hK => ?_)
          simp only [↓SP, SX, SW, TY, EN, sv_w, ↓reduceIte, reduceCtorEq, Nat.reduceEqDiff, Nat.reduceAdd, Nat.reduceLeDiff, Nat.reduceLT, Fan.av, hg12, hg20, hg29, hc37]
          refine hK _ _ ?_
          clear hK K
          refine wpT_block ?_
          refine wpT_loop ?_
          refine wpT_keep2 (i := 0) (j := 1) (o := .arr 49 4 [x.av]) (q := .arr 49 4 [y.av]) (by simp only [↓SP, SX, SW, TY, EN, sv_w, ↓reduceIte, reduceCtorEq, Nat.reduceEqDiff, Nat.reduceAdd, Nat.reduceLeDiff, Nat.reduceLT, Fan.av]) (by simp only [↓SP, SX, SW, TY, EN, sv_w, ↓reduceIte, reduceCtorEq, Nat.reduceEqDiff, Nat.reduceAdd, Nat.reduceLeDiff, Nat.reduceLT, Fan.av]) ?_
          refine wpT_ind (fun (i : Nat) tm' h' => (∃ m, h' = Hp.of [(0, .arr 49 4 [x.av]), (1, .arr 49 4 [y.av])] (m + 2)) ∧ tm' 2 = .ptr 0 1 0 0 ∧ tm' 3 = .ptr 1 1 0 0 ∧ tm' 5 = I i ∧ i ≤ x.kept.length ∧ x.kept.take i = y.kept.take i) (fun i => x.kept.length - i) ?_ 0 ⟨⟨0, rfl⟩, rfl, rfl, rfl, Nat.zero_le _, rfl⟩
          rintro i tm' _ ⟨⟨m, rfl⟩, e2, e3, e5, hi, hk⟩ IH
          have hk1 := hx.1
          refine wpT_inLoop ?_
          refine wpT_seq ?_
          refine wpT_seq ?_
          refine wpT_region (by kernel_rfl) (fun K hK => ?_)
          simp only [↓SP, SX, SW, TY, EN, sv_w, ↓reduceIte, reduceCtorEq, Nat.reduceEqDiff, Nat.reduceAdd, Nat.reduceLeDiff, Nat.reduceLT, Fan.av, e2, e5]
          refine hK _ _ ?_
          clear hK K
          refine wpT_if (by rfl) (fun hc42 => ?_) (fun hc42 => ?_)
          · skip
            have p42 := hc42
            try simp only [decide_eq_true_eq, decide_eq_false_iff_not, beq_iff_eq, bne_iff_ne, beq_eq_false_iff_ne, bne_eq_false_iff_eq, Bool.not_eq_true', Bool.not_eq_false'] at p42
            have hlt : i < x.kept.length := by omega
            have hlt' : i < y.kept.length := by omega
            have hg := at_map (f := Cyc.av) hlt
            have hg' := at_map (f := Cyc.av) hlt'
            refine wpT_skip ?_
            refine wpT_seq ?_
            refine wpT_block ?_
            refine wpT_seq ?_
            refine wpT_drawn [] mixed (by kernel_rfl) (m := 12) rfl (fun K hK => ?_)
            simp only [↓SP, SX, SW, TY, EN, sv_w, ↓reduceIte, reduceCtorEq, Nat.reduceEqDiff, Nat.reduceAdd, Nat.reduceLeDiff, Nat.reduceLT, Fan.av, e2, e3, e5, hg, hg', hc42]
            refine Pu.callD (c27 _ _ (hx.2.2.2 _ (List.getElem_mem hlt))) ?_
            simp only [↓SP, SX, SW, TY, EN, sv_w, ↓reduceIte, reduceCtorEq, Nat.reduceEqDiff, Nat.reduceAdd, Nat.reduceLeDiff, Nat.reduceLT, Fan.av, e2, e3, e5, hg, hg', hc42]
            refine hK _ _ ?_
            clear hK K
            refine wpT_if (by rfl) (fun hc56 => ?_) (fun hc56 => ?_)
            · skip
              have p56 := hc56
              try simp only [decide_eq_true_eq, decide_eq_false_iff_not, beq_iff_eq, bne_iff_ne, beq_eq_false_iff_ne, bne_eq_false_iff_eq, Bool.not_eq_true', Bool.not_eq_false'] at p56
              have hne : x ≠ y := by
                rintro rfl
                simp at p56
              refine wpT_seq ?_
              refine wpT_region (by kernel_rfl) (fun K hK => ?_)
              simp only [↓SP, SX, SW, TY, EN, sv_w, ↓reduceIte, reduceCtorEq, Nat.reduceEqDiff, Nat.reduceAdd, Nat.reduceLeDiff, Nat.reduceLT, Fan.av, hc42, hc56]
              refine hK _ _ ?_
              clear hK K
              refine wpT_ret ⟨.inr rfl, ?_⟩
              show optK (resA _ _ _ [.tmp 4]) _
              simp only [SR, Option.map_some, Option.bind_some, ↓SP, SX, SW, TY, EN, sv_w, ↓reduceIte, reduceCtorEq, Nat.reduceEqDiff, Nat.reduceAdd, Nat.reduceLeDiff, Nat.reduceLT, Fan.av, hc42, hc56]
              refine Lend.eq ?_
              first
                | simp only [hne, decide_false]
                | simp only [he, decide_true]
            · skip
              have p56 := hc56
              try simp only [decide_eq_true_eq, decide_eq_false_iff_not, beq_iff_eq, bne_iff_ne, beq_eq_false_iff_ne, bne_eq_false_iff_eq, Bool.not_eq_true', Bool.not_eq_false'] at p56
              have hk' := take_step hlt hlt' hk (by simpa using p56)
              refine wpT_skip ?_
              refine wpT_inBlock ?_
              refine wpT_region (by kernel_rfl) (fun K hK => ?_)
              simp only [↓SP, SX, SW, TY, EN, sv_w, ↓reduceIte, reduceCtorEq, Nat.reduceEqDiff, Nat.reduceAdd, Nat.reduceLeDiff, Nat.reduceLT, Fan.av, e5, wrap64 (x := (i : Int) + 1) (by omega) (by omega), hc42, hc56]
              refine hK _ _ ?_
              clear hK K
              refine wpT_keep2 (i := 0) (j := 1) (o := .arr 49 4 [x.av]) (q := .arr 49 4 [y.av]) (by simp only [↓SP, SX, SW, TY, EN, sv_w, ↓reduceIte, reduceCtorEq, Nat.reduceEqDiff, Nat.reduceAdd, Nat.reduceLeDiff, Nat.reduceLT, Fan.av]) (by simp only [↓SP, SX, SW, TY, EN, sv_w, ↓reduceIte, reduceCtorEq, Nat.reduceEqDiff, Nat.reduceAdd, Nat.reduceLeDiff, Nat.reduceLT, Fan.av]) ?_
              refine IH (i + 1) _ _ (by omega) ⟨⟨_, rfl⟩, by simp only [↓SP, SX, SW, TY, EN, sv_w, ↓reduceIte, reduceCtorEq, Nat.reduceEqDiff, Nat.reduceAdd, Nat.reduceLeDiff, Nat.reduceLT, Fan.av, e2], by simp only [↓SP, SX, SW, TY, EN, sv_w, ↓reduceIte, reduceCtorEq, Nat.reduceEqDiff, Nat.reduceAdd, Nat.reduceLeDiff, Nat.reduceLT, Fan.av, e3], by simp only [↓SP, SX, SW, TY, EN, sv_w, ↓reduceIte, reduceCtorEq, Nat.reduceEqDiff, Nat.reduceAdd, Nat.reduceLeDiff, Nat.reduceLT, Fan.av, Int.natCast_add, Int.cast_ofNat_Int], by omega, hk'⟩
          · skip
            have p42 := hc42
            try simp only [decide_eq_true_eq, decide_eq_false_iff_not, beq_iff_eq, bne_iff_ne, beq_eq_false_iff_ne, bne_eq_false_iff_eq, Bool.not_eq_true', Bool.not_eq_false'] at p42
            have h5 : x.kept = y.kept := by
              rw [List.take_of_length_le (by omega), List.take_of_length_le (by omega)] at hk
              exact hk
            clear IH
            refine wpT_exit rfl ?_
            refine wpT_seq ?_
            refine wpT_seq ?_
            refine wpT_region (by kernel_rfl) (fun K hK => ?_)
            simp only [↓SP, SX, SW, TY, EN, sv_w, ↓reduceIte, reduceCtorEq, Nat.reduceEqDiff, Nat.reduceAdd, Nat.reduceLeDiff, Nat.reduceLT, Fan.av, hc42]
            refine hK _ _ ?_
            clear hK K
            refine wpT_block ?_
            refine wpT_loop ?_
            refine wpT_keep2 (i := 0) (j := 1) (o := .arr 49 4 [x.av]) (q := .arr 49 4 [y.av]) (by simp only [↓SP, SX, SW, TY, EN, sv_w, ↓reduceIte, reduceCtorEq, Nat.reduceEqDiff, Nat.reduceAdd, Nat.reduceLeDiff, Nat.reduceLT, Fan.av]) (by simp only [↓SP, SX, SW, TY, EN, sv_w, ↓reduceIte, reduceCtorEq, Nat.reduceEqDiff, Nat.reduceAdd, Nat.reduceLeDiff, Nat.reduceLT, Fan.av]) ?_
            refine wpT_ind (fun (i : Nat) tm' h' => (∃ m, h' = Hp.of [(0, .arr 49 4 [x.av]), (1, .arr 49 4 [y.av])] (m + 2)) ∧ tm' 2 = .ptr 0 1 0 0 ∧ tm' 3 = .ptr 1 1 0 0 ∧ tm' 6 = I i ∧ i ≤ x.lost.length ∧ x.lost.take i = y.lost.take i) (fun i => x.lost.length - i) ?_ 0 ⟨⟨m, rfl⟩, by simp only [↓SP, SX, SW, TY, EN, sv_w, ↓reduceIte, reduceCtorEq, Nat.reduceEqDiff, Nat.reduceAdd, Nat.reduceLeDiff, Nat.reduceLT, Fan.av, e2], by simp only [↓SP, SX, SW, TY, EN, sv_w, ↓reduceIte, reduceCtorEq, Nat.reduceEqDiff, Nat.reduceAdd, Nat.reduceLeDiff, Nat.reduceLT, Fan.av, e3], rfl, Nat.zero_le _, rfl⟩
            clear e2 e3 e5 hi
            rintro i tm' _ ⟨⟨m, rfl⟩, e2, e3, e6, hi, hb⟩ IH
            have hk1 := hx.2.2.1
            refine wpT_inLoop ?_
            refine wpT_seq ?_
            refine wpT_seq ?_
            refine wpT_region (by kernel_rfl) (fun K hK => ?_)
            simp only [↓SP, SX, SW, TY, EN, sv_w, ↓reduceIte, reduceCtorEq, Nat.reduceEqDiff, Nat.reduceAdd, Nat.reduceLeDiff, Nat.reduceLT, Fan.av, e2, e6]
            refine hK _ _ ?_
            clear hK K
            refine wpT_if (by rfl) (fun hc61 => ?_) (fun hc61 => ?_)
            · skip
              have p61 := hc61
              try simp only [decide_eq_true_eq, decide_eq_false_iff_not, beq_iff_eq, bne_iff_ne, beq_eq_false_iff_ne, bne_eq_false_iff_eq, Bool.not_eq_true', Bool.not_eq_false'] at p61
              have hlt : i < x.lost.length := by omega
              have hlt' : i < y.lost.length := by omega
              have hg := at_map (f := B) hlt
              have hg' := at_map (f := B) hlt'
              refine wpT_skip ?_
              refine wpT_seq ?_
              refine wpT_block ?_
              refine wpT_seq ?_
              refine wpT_drawn [] mixed (by kernel_rfl) (m := 11) rfl (fun K hK => ?_)
              simp only [↓SP, SX, SW, TY, EN, sv_w, ↓reduceIte, reduceCtorEq, Nat.reduceEqDiff, Nat.reduceAdd, Nat.reduceLeDiff, Nat.reduceLT, Fan.av, e2, e3, e6, hg, hg', neqb, hc61]
              refine hK _ _ ?_
              clear hK K
              refine wpT_if (by rfl) (fun hc74 => ?_) (fun hc74 => ?_)
              · skip
                have p74 := hc74
                try simp only [decide_eq_true_eq, decide_eq_false_iff_not, beq_iff_eq, bne_iff_ne, beq_eq_false_iff_ne, bne_eq_false_iff_eq, Bool.not_eq_true', Bool.not_eq_false'] at p74
                have hne : x ≠ y := by
                  rintro rfl
                  simp at p74
                refine wpT_seq ?_
                refine wpT_region (by kernel_rfl) (fun K hK => ?_)
                simp only [↓SP, SX, SW, TY, EN, sv_w, ↓reduceIte, reduceCtorEq, Nat.reduceEqDiff, Nat.reduceAdd, Nat.reduceLeDiff, Nat.reduceLT, Fan.av, hc61, hc74]
                refine hK _ _ ?_
                clear hK K
                refine wpT_ret ⟨.inr rfl, ?_⟩
                show optK (resA _ _ _ [.tmp 4]) _
                simp only [SR, Option.map_some, Option.bind_some, ↓SP, SX, SW, TY, EN, sv_w, ↓reduceIte, reduceCtorEq, Nat.reduceEqDiff, Nat.reduceAdd, Nat.reduceLeDiff, Nat.reduceLT, Fan.av, hc61, hc74]
                refine Lend.eq ?_
                first
                  | simp only [hne, decide_false]
                  | simp only [he, decide_true]
              · skip
                have p74 := hc74
                try simp only [decide_eq_true_eq, decide_eq_false_iff_not, beq_iff_eq, bne_iff_ne, beq_eq_false_iff_ne, bne_eq_false_iff_eq, Bool.not_eq_true', Bool.not_eq_false'] at p74
                have hb' := take_step hlt hlt' hb (by simpa using p74)
                refine wpT_skip ?_
                refine wpT_inBlock ?_
                refine wpT_region (by kernel_rfl) (fun K hK => ?_)
                simp only [↓SP, SX, SW, TY, EN, sv_w, ↓reduceIte, reduceCtorEq, Nat.reduceEqDiff, Nat.reduceAdd, Nat.reduceLeDiff, Nat.reduceLT, Fan.av, e6, wrap64 (x := (i : Int) + 1) (by omega) (by omega), hc61, hc74]
                refine hK _ _ ?_
                clear hK K
                refine wpT_keep2 (i := 0) (j := 1) (o := .arr 49 4 [x.av]) (q := .arr 49 4 [y.av]) (by simp only [↓SP, SX, SW, TY, EN, sv_w, ↓reduceIte, reduceCtorEq, Nat.reduceEqDiff, Nat.reduceAdd, Nat.reduceLeDiff, Nat.reduceLT, Fan.av]) (by simp only [↓SP, SX, SW, TY, EN, sv_w, ↓reduceIte, reduceCtorEq, Nat.reduceEqDiff, Nat.reduceAdd, Nat.reduceLeDiff, Nat.reduceLT, Fan.av]) ?_
                refine IH (i + 1) _ _ (by omega) ⟨⟨_, rfl⟩, by simp only [↓SP, SX, SW, TY, EN, sv_w, ↓reduceIte, reduceCtorEq, Nat.reduceEqDiff, Nat.reduceAdd, Nat.reduceLeDiff, Nat.reduceLT, Fan.av, e2], by simp only [↓SP, SX, SW, TY, EN, sv_w, ↓reduceIte, reduceCtorEq, Nat.reduceEqDiff, Nat.reduceAdd, Nat.reduceLeDiff, Nat.reduceLT, Fan.av, e3], by simp only [↓SP, SX, SW, TY, EN, sv_w, ↓reduceIte, reduceCtorEq, Nat.reduceEqDiff, Nat.reduceAdd, Nat.reduceLeDiff, Nat.reduceLT, Fan.av, Int.natCast_add, Int.cast_ofNat_Int], by omega, hb'⟩
            · skip
              have p61 := hc61
              try simp only [decide_eq_true_eq, decide_eq_false_iff_not, beq_iff_eq, bne_iff_ne, beq_eq_false_iff_ne, bne_eq_false_iff_eq, Bool.not_eq_true', Bool.not_eq_false'] at p61
              have he : x = y := by
                rw [List.take_of_length_le (by omega), List.take_of_length_le (by omega)] at hb
                exact fan_ext h1 h5 h2 hb
              refine wpT_exit rfl ?_
              refine wpT_seq ?_
              refine wpT_region (by kernel_rfl) (fun K hK => ?_)
              simp only [↓SP, SX, SW, TY, EN, sv_w, ↓reduceIte, reduceCtorEq, Nat.reduceEqDiff, Nat.reduceAdd, Nat.reduceLeDiff, Nat.reduceLT, Fan.av, hc61]
              refine hK _ _ ?_
              clear hK K
              refine wpT_ret ⟨.inr rfl, ?_⟩
              show optK (resA _ _ _ [.tmp 4]) _
              simp only [SR, Option.map_some, Option.bind_some, ↓SP, SX, SW, TY, EN, sv_w, ↓reduceIte, reduceCtorEq, Nat.reduceEqDiff, Nat.reduceAdd, Nat.reduceLeDiff, Nat.reduceLT, Fan.av, hc61]
              refine Lend.eq ?_
              first
                | simp only [hne, decide_false]
                | simp only [he, decide_true]
      · skip
        simp only [Bool.not_true, Bool.not_false] at hg29
        have p29 := hg29
        try simp only [decide_eq_true_eq, decide_eq_false_iff_not, beq_iff_eq, bne_iff_ne, beq_eq_false_iff_ne, bne_eq_false_iff_eq, Bool.not_eq_true', Bool.not_eq_false'] at p29
        simp only [↓SP, SX, SW, TY, EN, sv_w, ↓reduceIte, reduceCtorEq, Nat.reduceEqDiff, Nat.reduceAdd, Nat.reduceLeDiff, Nat.reduceLT, Fan.av, hg12, hg20, hg29]
        refine hK _ _ ?_
        clear hK K
        refine wpT_ifT (by simp only [↓SP, SX, SW, TY, EN, sv_w, ↓reduceIte, reduceCtorEq, Nat.reduceEqDiff, Nat.reduceAdd, Nat.reduceLeDiff, Nat.reduceLT, Fan.av, hg12, hg20, hg29]) ?_
        have hne : x ≠ y := by rintro rfl; simp_all
        refine wpT_seq ?_
        refine wpT_region (by kernel_rfl) (fun K hK => ?_)
        simp only [↓SP, SX, SW, TY, EN, sv_w, ↓reduceIte, reduceCtorEq, Nat.reduceEqDiff, Nat.reduceAdd, Nat.reduceLeDiff, Nat.reduceLT, Fan.av, hg12, hg20, hg29]
        refine hK _ _ ?_
        clear hK K
        refine wpT_ret ⟨.inr rfl, ?_⟩
        show optK (resA _ _ _ [.tmp 4]) _
        simp only [SR, Option.map_some, Option.bind_some, ↓SP, SX, SW, TY, EN, sv_w, ↓reduceIte, reduceCtorEq, Nat.reduceEqDiff, Nat.reduceAdd, Nat.reduceLeDiff, Nat.reduceLT, Fan.av, hg12, hg20, hg29]
        refine Lend.eq ?_
        first
          | simp only [hne, decide_false]
          | simp only [he, decide_true]
    · skip
      simp only [Bool.not_true, Bool.not_false] at hg20
      have p20 := hg20
      try simp only [decide_eq_true_eq, decide_eq_false_iff_not, beq_iff_eq, bne_iff_ne, beq_eq_false_iff_ne, bne_eq_false_iff_eq, Bool.not_eq_true', Bool.not_eq_false'] at p20
      simp only [↓SP, SX, SW, TY, EN, sv_w, ↓reduceIte, reduceCtorEq, Nat.reduceEqDiff, Nat.reduceAdd, Nat.reduceLeDiff, Nat.reduceLT, Fan.av, hg12, hg20]
      refine hK _ _ ?_
      clear hK K
      refine wpT_ifT (by simp only [↓SP, SX, SW, TY, EN, sv_w, ↓reduceIte, reduceCtorEq, Nat.reduceEqDiff, Nat.reduceAdd, Nat.reduceLeDiff, Nat.reduceLT, Fan.av, hg12, hg20]) ?_
      have hne : x ≠ y := by rintro rfl; simp_all
      refine wpT_seq ?_
      refine wpT_region (by kernel_rfl) (fun K hK => ?_)
      simp only [↓SP, SX, SW, TY, EN, sv_w, ↓reduceIte, reduceCtorEq, Nat.reduceEqDiff, Nat.reduceAdd, Nat.reduceLeDiff, Nat.reduceLT, Fan.av, hg12, hg20]
      refine hK _ _ ?_
      clear hK K
      refine wpT_ret ⟨.inr rfl, ?_⟩
      show optK (resA _ _ _ [.tmp 4]) _
      simp only [SR, Option.map_some, Option.bind_some, ↓SP, SX, SW, TY, EN, sv_w, ↓reduceIte, reduceCtorEq, Nat.reduceEqDiff, Nat.reduceAdd, Nat.reduceLeDiff, Nat.reduceLT, Fan.av, hg12, hg20]
      refine Lend.eq ?_
      first
        | simp only [hne, decide_false]
        | simp only [he, decide_true]
  · skip
    simp only [Bool.not_true, Bool.not_false] at hg12
    have p12 := hg12
    try simp only [decide_eq_true_eq, decide_eq_false_iff_not, beq_iff_eq, bne_iff_ne, beq_eq_false_iff_ne, bne_eq_false_iff_eq, Bool.not_eq_true', Bool.not_eq_false'] at p12
    simp only [↓SP, SX, SW, TY, EN, sv_w, ↓reduceIte, reduceCtorEq, Nat.reduceEqDiff, Nat.reduceAdd, Nat.reduceLeDiff, Nat.reduceLT, Fan.av, hg12]
    refine hK _ _ ?_
    clear hK K
    refine wpT_ifT (by simp only [↓SP, SX, SW, TY, EN, sv_w, ↓reduceIte, reduceCtorEq, Nat.reduceEqDiff, Nat.reduceAdd, Nat.reduceLeDiff, Nat.reduceLT, Fan.av, hg12]) ?_
    have hne : x ≠ y := by rintro rfl; simp_all
    refine wpT_seq ?_
    refine wpT_region (by kernel_rfl) (fun K hK => ?_)
    simp only [↓SP, SX, SW, TY, EN, sv_w, ↓reduceIte, reduceCtorEq, Nat.reduceEqDiff, Nat.reduceAdd, Nat.reduceLeDiff, Nat.reduceLT, Fan.av, hg12]
    refine hK _ _ ?_
    clear hK K
    refine wpT_ret ⟨.inr rfl, ?_⟩
    show optK (resA _ _ _ [.tmp 4]) _
    simp only [SR, Option.map_some, Option.bind_some, ↓SP, SX, SW, TY, EN, sv_w, ↓reduceIte, reduceCtorEq, Nat.reduceEqDiff, Nat.reduceAdd, Nat.reduceLeDiff, Nat.reduceLT, Fan.av, hg12]
    refine Lend.eq ?_
    first
      | simp only [hne, decide_false]
      | simp only [he, decide_true]
end Go.Proofs.YtlmjpgmaefokdaaGreat
end

section
set_option linter.unusedSimpArgs false
set_option linter.unusedVariables false
namespace Go.Proofs.YtlmjpgmaefokdaaGreat
open Go.Proofs
set_option maxRecDepth 10000
def szR : List Int → Int
  | [] => 0
  | x :: xs => if x < 1 ∨ x > 4096 then 2 else szR xs
def sizesE (xs : List Int) : Int := if xs.length < 1 ∨ xs.length > 8 then 6 else szR xs
def posR : List Int → Int
  | [] => 0
  | x :: xs => if x < 0 ∨ x > 1073741824 then 2 else posR xs
def fitsE (sz : List Int) (w : Wr) : Int :=
  if w.vol < 0 ∨ w.vol ≥ sz.length then 7 else if w.data.length = 0 then 1 else
  if w.start < 0 ∨ w.start ≥ sz.getD w.vol.toNat 0 ∨ w.data.length > sz.getD w.vol.toNat 0 - w.start then 2 else 0
theorem szR_le : ∀ {xs : List Int}, szR xs = 0 → ∀ x ∈ xs, 1 ≤ x ∧ x ≤ 4096
  | [], _ => by simp
  | x :: xs, h => by
    rw [szR] at h
    split at h
    · simp at h
    · intro y hy
      rcases List.mem_cons.1 hy with rfl | hy
      · omega
      · exact szR_le h y hy
theorem sizesE_le {xs : List Int} (h : sizesE xs = 0) : ∀ x ∈ xs, 1 ≤ x ∧ x ≤ 4096 := by
  unfold sizesE at h
  split at h
  · simp at h
  · exact szR_le h
theorem c150 (xs : List Int) (hl : xs.length < 4611686018427387904) : Pu Tryz.prog (.fn (.func 150) [] []) [.lst (xs.map I)] (I (posR xs)) := by
  refine pu_func Tryz.func150 rfl (by kernel_rfl) (by show _ ≤ 22; simp only [List.length_append, List.length_cons, List.length_nil]; decide) (by simp only [IDF, and_tt, implies_true]) (by simp only [IDF, and_tt, implies_true]) (by simp only [IDF, and_tt, implies_true]) ?_
  rw [Tryz.ntmps150]
  refine wpT_seq ?_
  refine wpT_region (by kernel_rfl) (fun K hK => ?_)
  simp only [↓SP, SX, SW, TY, EN, sv_w, ↓reduceIte, reduceCtorEq, Nat.reduceEqDiff, Nat.reduceAdd, Nat.reduceLeDiff, Nat.reduceLT]
  refine hK _ _ ?_
  clear hK K
  refine wpT_seq ?_
  refine wpT_seq ?_
  refine wpT_region (by kernel_rfl) (fun K hK => ?_)
  simp only [↓SP, SX, SW, TY, EN, sv_w, ↓reduceIte, reduceCtorEq, Nat.reduceEqDiff, Nat.reduceAdd, Nat.reduceLeDiff, Nat.reduceLT]
  refine hK _ _ ?_
  clear hK K
  refine wpT_block ?_
  refine wpT_loop ?_
  refine wpT_keep0 ?_
  refine wpT_ind (fun (i : Nat) tm' h' => (∃ m, h' = Hp.of [] m) ∧ tm' 0 = .lst (xs.map I) ∧ tm' 3 = I i ∧ i ≤ xs.length ∧ posR (xs.drop i) = posR xs) (fun i => xs.length - i) ?_ 0 ⟨⟨_, rfl⟩, rfl, rfl, Nat.zero_le _, rfl⟩
  rintro i tm' _ ⟨⟨m, rfl⟩, e0, e3, hi, hx⟩ IH
  refine wpT_inLoop ?_
  refine wpT_seq ?_
  refine wpT_seq ?_
  refine wpT_region (by kernel_rfl) (fun K hK => ?_)
  simp only [↓SP, SX, SW, TY, EN, sv_w, ↓reduceIte, reduceCtorEq, Nat.reduceEqDiff, Nat.reduceAdd, Nat.reduceLeDiff, Nat.reduceLT, e0, e3]
  refine hK _ _ ?_
  clear hK K
  refine wpT_if (by rfl) (fun hc7 => ?_) (fun hc7 => ?_)
  · skip
    have p7 := hc7
    try simp only [decide_eq_true_eq, decide_eq_false_iff_not, beq_iff_eq, bne_iff_ne, beq_eq_false_iff_ne, bne_eq_false_iff_eq, Bool.not_eq_true', Bool.not_eq_false'] at p7
    have hlt : i < xs.length := by omega
    have hg := at_map (f := I) hlt
    rw [List.drop_eq_getElem_cons hlt, posR] at hx
    refine wpT_skip ?_
    refine wpT_seq ?_
    refine wpT_block ?_
    refine wpT_seq ?_
    refine wpT_region (by kernel_rfl) (fun K hK => ?_)
    simp only [↓SP, SX, SW, TY, EN, sv_w, ↓reduceIte, reduceCtorEq, Nat.reduceEqDiff, Nat.reduceAdd, Nat.reduceLeDiff, Nat.reduceLT, e0, e3, hg, hc7]
    refine guardO_split (fun hg15 => ?_) (fun hg15 => ?_)
    · skip
      have p15 := hg15
      try simp only [decide_eq_true_eq, decide_eq_false_iff_not, beq_iff_eq, bne_iff_ne, beq_eq_false_iff_ne, bne_eq_false_iff_eq, Bool.not_eq_true', Bool.not_eq_false'] at p15
      simp only [↓SP, SX, SW, TY, EN, sv_w, ↓reduceIte, reduceCtorEq, Nat.reduceEqDiff, Nat.reduceAdd, Nat.reduceLeDiff, Nat.reduceLT, e0, e3, hg, hc7, hg15]
      refine hK _ _ ?_
      clear hK K
      refine wpT_if (by rfl) (fun hc21 => ?_) (fun hc21 => ?_)
      · skip
        have p21 := hc21
        try simp only [decide_eq_true_eq, decide_eq_false_iff_not, beq_iff_eq, bne_iff_ne, beq_eq_false_iff_ne, bne_eq_false_iff_eq, Bool.not_eq_true', Bool.not_eq_false'] at p21
        refine wpT_seq ?_
        refine wpT_region (by kernel_rfl) (fun K hK => ?_)
        simp only [↓SP, SX, SW, TY, EN, sv_w, ↓reduceIte, reduceCtorEq, Nat.reduceEqDiff, Nat.reduceAdd, Nat.reduceLeDiff, Nat.reduceLT, hc7, hg15, hc21]
        refine hK _ _ ?_
        clear hK K
        refine wpT_ret ⟨.inr rfl, ?_⟩
        show optK (resA _ _ _ [.tmp 2]) _
        simp only [SR, Option.map_some, Option.bind_some, ↓SP, SX, SW, TY, EN, sv_w, ↓reduceIte, reduceCtorEq, Nat.reduceEqDiff, Nat.reduceAdd, Nat.reduceLeDiff, Nat.reduceLT, hc7, hg15, hc21]
        refine Lend.eq ?_
        first
          | rw [← hx, if_pos (by omega)]
          | rw [← hx]
      · skip
        have p21 := hc21
        try simp only [decide_eq_true_eq, decide_eq_false_iff_not, beq_iff_eq, bne_iff_ne, beq_eq_false_iff_ne, bne_eq_false_iff_eq, Bool.not_eq_true', Bool.not_eq_false'] at p21
        refine wpT_skip ?_
        refine wpT_inBlock ?_
        refine wpT_region (by kernel_rfl) (fun K hK => ?_)
        simp only [↓SP, SX, SW, TY, EN, sv_w, ↓reduceIte, reduceCtorEq, Nat.reduceEqDiff, Nat.reduceAdd, Nat.reduceLeDiff, Nat.reduceLT, e3, wrap64 (x := (i : Int) + 1) (by omega) (by omega), hc7, hg15, hc21]
        refine hK _ _ ?_
        clear hK K
        rw [if_neg (by omega)] at hx
        refine wpT_keep0 ?_
        refine IH (i + 1) _ _ (by omega) ⟨⟨_, rfl⟩, by simp only [↓SP, SX, SW, TY, EN, sv_w, ↓reduceIte, reduceCtorEq, Nat.reduceEqDiff, Nat.reduceAdd, Nat.reduceLeDiff, Nat.reduceLT, e0], by simp only [↓SP, SX, SW, TY, EN, sv_w, ↓reduceIte, reduceCtorEq, Nat.reduceEqDiff, Nat.reduceAdd, Nat.reduceLeDiff, Nat.reduceLT, Int.natCast_add, Int.cast_ofNat_Int], by omega, hx⟩
    · skip
      simp only [Bool.not_true, Bool.not_false] at hg15
      have p15 := hg15
      try simp only [decide_eq_true_eq, decide_eq_false_iff_not, beq_iff_eq, bne_iff_ne, beq_eq_false_iff_ne, bne_eq_false_iff_eq, Bool.not_eq_true', Bool.not_eq_false'] at p15
      simp only [↓SP, SX, SW, TY, EN, sv_w, ↓reduceIte, reduceCtorEq, Nat.reduceEqDiff, Nat.reduceAdd, Nat.reduceLeDiff, Nat.reduceLT, e0, e3, hg, hc7, hg15]
      refine hK _ _ ?_
      clear hK K
      refine wpT_ifT (by simp only [↓SP, SX, SW, TY, EN, sv_w, ↓reduceIte, reduceCtorEq, Nat.reduceEqDiff, Nat.reduceAdd, Nat.reduceLeDiff, Nat.reduceLT, hc7, hg15]) ?_
      refine wpT_seq ?_
      refine wpT_region (by kernel_rfl) (fun K hK => ?_)
      simp only [↓SP, SX, SW, TY, EN, sv_w, ↓reduceIte, reduceCtorEq, Nat.reduceEqDiff, Nat.reduceAdd, Nat.reduceLeDiff, Nat.reduceLT, hc7, hg15]
      refine hK _ _ ?_
      clear hK K
      refine wpT_ret ⟨.inr rfl, ?_⟩
      show optK (resA _ _ _ [.tmp 2]) _
      simp only [SR, Option.map_some, Option.bind_some, ↓SP, SX, SW, TY, EN, sv_w, ↓reduceIte, reduceCtorEq, Nat.reduceEqDiff, Nat.reduceAdd, Nat.reduceLeDiff, Nat.reduceLT, hc7, hg15]
      refine Lend.eq ?_
      first
        | rw [← hx, if_pos (by omega)]
        | rw [← hx]
  · skip
    have p7 := hc7
    try simp only [decide_eq_true_eq, decide_eq_false_iff_not, beq_iff_eq, bne_iff_ne, beq_eq_false_iff_ne, bne_eq_false_iff_eq, Bool.not_eq_true', Bool.not_eq_false'] at p7
    rw [List.drop_eq_nil_of_le (by omega), posR] at hx
    refine wpT_exit rfl ?_
    refine wpT_seq ?_
    refine wpT_region (by kernel_rfl) (fun K hK => ?_)
    simp only [↓SP, SX, SW, TY, EN, sv_w, ↓reduceIte, reduceCtorEq, Nat.reduceEqDiff, Nat.reduceAdd, Nat.reduceLeDiff, Nat.reduceLT, hc7]
    refine hK _ _ ?_
    clear hK K
    refine wpT_ret ⟨.inr rfl, ?_⟩
    show optK (resA _ _ _ [.tmp 2]) _
    simp only [SR, Option.map_some, Option.bind_some, ↓SP, SX, SW, TY, EN, sv_w, ↓reduceIte, reduceCtorEq, Nat.reduceEqDiff, Nat.reduceAdd, Nat.reduceLeDiff, Nat.reduceLT, hc7]
    refine Lend.eq ?_
    first
      | rw [← hx, if_pos (by omega)]
      | rw [← hx]
theorem c149 (xs : List Int) (hl : xs.length < 4611686018427387904) : Pu Tryz.prog (.fn (.func 149) [] []) [.lst (xs.map I)] (I (sizesE xs)) := by
  refine pu_func Tryz.func149 rfl (by kernel_rfl) (by show _ ≤ 30; simp only [List.length_append, List.length_cons, List.length_nil]; decide) (by simp only [IDF, and_tt, implies_true]) (by simp only [IDF, and_tt, implies_true]) (by simp only [IDF, and_tt, implies_true]) ?_
  rw [Tryz.ntmps149]
  refine wpT_seq ?_
  refine wpT_region (by kernel_rfl) (fun K hK => ?_)
  simp only [↓SP, SX, SW, TY, EN, sv_w, ↓reduceIte, reduceCtorEq, Nat.reduceEqDiff, Nat.reduceAdd, Nat.reduceLeDiff, Nat.reduceLT]
  refine hK _ _ ?_
  clear hK K
  refine wpT_seq ?_
  refine wpT_seq ?_
  refine wpT_region (by kernel_rfl) (fun K hK => ?_)
  simp only [↓SP, SX, SW, TY, EN, sv_w, ↓reduceIte, reduceCtorEq, Nat.reduceEqDiff, Nat.reduceAdd, Nat.reduceLeDiff, Nat.reduceLT]
  refine guardO_split (fun hg7 => ?_) (fun hg7 => ?_)
  · skip
    have p7 := hg7
    try simp only [decide_eq_true_eq, decide_eq_false_iff_not, beq_iff_eq, bne_iff_ne, beq_eq_false_iff_ne, bne_eq_false_iff_eq, Bool.not_eq_true', Bool.not_eq_false'] at p7
    simp only [↓SP, SX, SW, TY, EN, sv_w, ↓reduceIte, reduceCtorEq, Nat.reduceEqDiff, Nat.reduceAdd, Nat.reduceLeDiff, Nat.reduceLT, hg7]
    refine hK _ _ ?_
    clear hK K
    refine wpT_if (by rfl) (fun hc11 => ?_) (fun hc11 => ?_)
    · skip
      have p11 := hc11
      try simp only [decide_eq_true_eq, decide_eq_false_iff_not, beq_iff_eq, bne_iff_ne, beq_eq_false_iff_ne, bne_eq_false_iff_eq, Bool.not_eq_true', Bool.not_eq_false'] at p11
      have hx : sizesE xs = 6 := if_pos (by omega)
      refine wpT_seq ?_
      refine wpT_region (by kernel_rfl) (fun K hK => ?_)
      simp only [↓SP, SX, SW, TY, EN, sv_w, ↓reduceIte, reduceCtorEq, Nat.reduceEqDiff, Nat.reduceAdd, Nat.reduceLeDiff, Nat.reduceLT, hg7, hc11]
      refine hK _ _ ?_
      clear hK K
      refine wpT_ret ⟨.inr rfl, ?_⟩
      show optK (resA _ _ _ [.tmp 2]) _
      simp only [SR, Option.map_some, Option.bind_some, ↓SP, SX, SW, TY, EN, sv_w, ↓reduceIte, reduceCtorEq, Nat.reduceEqDiff, Nat.reduceAdd, Nat.reduceLeDiff, Nat.reduceLT, hg7, hc11]
      refine Lend.eq ?_
      first
        | rw [← hx, if_pos (by omega)]
        | rw [← hx]
        | rw [hx]
    · skip
      have p11 := hc11
      try simp only [decide_eq_true_eq, decide_eq_false_iff_not, beq_iff_eq, bne_iff_ne, beq_eq_false_iff_ne, bne_eq_false_iff_eq, Bool.not_eq_true', Bool.not_eq_false'] at p11
      have hx : sizesE xs = szR xs := if_neg (by omega)
      refine wpT_skip ?_
      refine wpT_seq ?_
      refine wpT_seq ?_
      refine wpT_region (by kernel_rfl) (fun K hK => ?_)
      simp only [↓SP, SX, SW, TY, EN, sv_w, ↓reduceIte, reduceCtorEq, Nat.reduceEqDiff, Nat.reduceAdd, Nat.reduceLeDiff, Nat.reduceLT, hg7, hc11]
      refine hK _ _ ?_
      clear hK K
      refine wpT_block ?_
      refine wpT_loop ?_
      refine wpT_keep0 ?_
      rw [hx]
      clear hx
      refine wpT_ind (fun (i : Nat) tm' h' => (∃ m, h' = Hp.of [] m) ∧ tm' 0 = .lst (xs.map I) ∧ tm' 3 = I i ∧ i ≤ xs.length ∧ szR (xs.drop i) = szR xs) (fun i => xs.length - i) ?_ 0 ⟨⟨_, rfl⟩, rfl, rfl, Nat.zero_le _, rfl⟩
      rintro i tm' _ ⟨⟨m, rfl⟩, e0, e3, hi, hx⟩ IH
      refine wpT_inLoop ?_
      refine wpT_seq ?_
      refine wpT_seq ?_
      refine wpT_region (by kernel_rfl) (fun K hK => ?_)
      simp only [↓SP, SX, SW, TY, EN, sv_w, ↓reduceIte, reduceCtorEq, Nat.reduceEqDiff, Nat.reduceAdd, Nat.reduceLeDiff, Nat.reduceLT, e0, e3]
      refine hK _ _ ?_
      clear hK K
      refine wpT_if (by rfl) (fun hc15 => ?_) (fun hc15 => ?_)
      · skip
        have p15 := hc15
        try simp only [decide_eq_true_eq, decide_eq_false_iff_not, beq_iff_eq, bne_iff_ne, beq_eq_false_iff_ne, bne_eq_false_iff_eq, Bool.not_eq_true', Bool.not_eq_false'] at p15
        have hlt : i < xs.length := by omega
        have hg := at_map (f := I) hlt
        rw [List.drop_eq_getElem_cons hlt, szR] at hx
        refine wpT_skip ?_
        refine wpT_seq ?_
        refine wpT_block ?_
        refine wpT_seq ?_
        refine wpT_region (by kernel_rfl) (fun K hK => ?_)
        simp only [↓SP, SX, SW, TY, EN, sv_w, ↓reduceIte, reduceCtorEq, Nat.reduceEqDiff, Nat.reduceAdd, Nat.reduceLeDiff, Nat.reduceLT, e0, e3, hg, hc15]
        refine guardO_split (fun hg23 => ?_) (fun hg23 => ?_)
        · skip
          have p23 := hg23
          try simp only [decide_eq_true_eq, decide_eq_false_iff_not, beq_iff_eq, bne_iff_ne, beq_eq_false_iff_ne, bne_eq_false_iff_eq, Bool.not_eq_true', Bool.not_eq_false'] at p23
          simp only [↓SP, SX, SW, TY, EN, sv_w, ↓reduceIte, reduceCtorEq, Nat.reduceEqDiff, Nat.reduceAdd, Nat.reduceLeDiff, Nat.reduceLT, e0, e3, hg, hc15, hg23]
          refine hK _ _ ?_
          clear hK K
          refine wpT_if (by rfl) (fun hc29 => ?_) (fun hc29 => ?_)
          · skip
            have p29 := hc29
            try simp only [decide_eq_true_eq, decide_eq_false_iff_not, beq_iff_eq, bne_iff_ne, beq_eq_false_iff_ne, bne_eq_false_iff_eq, Bool.not_eq_true', Bool.not_eq_false'] at p29
            refine wpT_seq ?_
            refine wpT_region (by kernel_rfl) (fun K hK => ?_)
            simp only [↓SP, SX, SW, TY, EN, sv_w, ↓reduceIte, reduceCtorEq, Nat.reduceEqDiff, Nat.reduceAdd, Nat.reduceLeDiff, Nat.reduceLT, hc15, hg23, hc29]
            refine hK _ _ ?_
            clear hK K
            refine wpT_ret ⟨.inr rfl, ?_⟩
            show optK (resA _ _ _ [.tmp 2]) _
            simp only [SR, Option.map_some, Option.bind_some, ↓SP, SX, SW, TY, EN, sv_w, ↓reduceIte, reduceCtorEq, Nat.reduceEqDiff, Nat.reduceAdd, Nat.reduceLeDiff, Nat.reduceLT, hc15, hg23, hc29]
            refine Lend.eq ?_
            first
              | rw [← hx, if_pos (by omega)]
              | rw [← hx]
              | rw [hx]
          · skip
            have p29 := hc29
            try simp only [decide_eq_true_eq, decide_eq_false_iff_not, beq_iff_eq, bne_iff_ne, beq_eq_false_iff_ne, bne_eq_false_iff_eq, Bool.not_eq_true', Bool.not_eq_false'] at p29
            refine wpT_skip ?_
            refine wpT_inBlock ?_
            refine wpT_region (by kernel_rfl) (fun K hK => ?_)
            simp only [↓SP, SX, SW, TY, EN, sv_w, ↓reduceIte, reduceCtorEq, Nat.reduceEqDiff, Nat.reduceAdd, Nat.reduceLeDiff, Nat.reduceLT, e3, wrap64 (x := (i : Int) + 1) (by omega) (by omega), hc15, hg23, hc29]
            refine hK _ _ ?_
            clear hK K
            rw [if_neg (by omega)] at hx
            refine wpT_keep0 ?_
            refine IH (i + 1) _ _ (by omega) ⟨⟨_, rfl⟩, by simp only [↓SP, SX, SW, TY, EN, sv_w, ↓reduceIte, reduceCtorEq, Nat.reduceEqDiff, Nat.reduceAdd, Nat.reduceLeDiff, Nat.reduceLT, e0], by simp only [↓SP, SX, SW, TY, EN, sv_w, ↓reduceIte, reduceCtorEq, Nat.reduceEqDiff, Nat.reduceAdd, Nat.reduceLeDiff, Nat.reduceLT, Int.natCast_add, Int.cast_ofNat_Int], by omega, hx⟩
        · skip
          simp only [Bool.not_true, Bool.not_false] at hg23
          have p23 := hg23
          try simp only [decide_eq_true_eq, decide_eq_false_iff_not, beq_iff_eq, bne_iff_ne, beq_eq_false_iff_ne, bne_eq_false_iff_eq, Bool.not_eq_true', Bool.not_eq_false'] at p23
          simp only [↓SP, SX, SW, TY, EN, sv_w, ↓reduceIte, reduceCtorEq, Nat.reduceEqDiff, Nat.reduceAdd, Nat.reduceLeDiff, Nat.reduceLT, e0, e3, hg, hc15, hg23]
          refine hK _ _ ?_
          clear hK K
          refine wpT_ifT (by simp only [↓SP, SX, SW, TY, EN, sv_w, ↓reduceIte, reduceCtorEq, Nat.reduceEqDiff, Nat.reduceAdd, Nat.reduceLeDiff, Nat.reduceLT, hc15, hg23]) ?_
          refine wpT_seq ?_
          refine wpT_region (by kernel_rfl) (fun K hK => ?_)
          simp only [↓SP, SX, SW, TY, EN, sv_w, ↓reduceIte, reduceCtorEq, Nat.reduceEqDiff, Nat.reduceAdd, Nat.reduceLeDiff, Nat.reduceLT, hc15, hg23]
          refine hK _ _ ?_
          clear hK K
          refine wpT_ret ⟨.inr rfl, ?_⟩
          show optK (resA _ _ _ [.tmp 2]) _
          simp only [SR, Option.map_some, Option.bind_some, ↓SP, SX, SW, TY, EN, sv_w, ↓reduceIte, reduceCtorEq, Nat.reduceEqDiff, Nat.reduceAdd, Nat.reduceLeDiff, Nat.reduceLT, hc15, hg23]
          refine Lend.eq ?_
          first
            | rw [← hx, if_pos (by omega)]
            | rw [← hx]
            | rw [hx]
      · skip
        have p15 := hc15
        try simp only [decide_eq_true_eq, decide_eq_false_iff_not, beq_iff_eq, bne_iff_ne, beq_eq_false_iff_ne, bne_eq_false_iff_eq, Bool.not_eq_true', Bool.not_eq_false'] at p15
        rw [List.drop_eq_nil_of_le (by omega), szR] at hx
        refine wpT_exit rfl ?_
        refine wpT_seq ?_
        refine wpT_region (by kernel_rfl) (fun K hK => ?_)
        simp only [↓SP, SX, SW, TY, EN, sv_w, ↓reduceIte, reduceCtorEq, Nat.reduceEqDiff, Nat.reduceAdd, Nat.reduceLeDiff, Nat.reduceLT, hc15]
        refine hK _ _ ?_
        clear hK K
        refine wpT_ret ⟨.inr rfl, ?_⟩
        show optK (resA _ _ _ [.tmp 2]) _
        simp only [SR, Option.map_some, Option.bind_some, ↓SP, SX, SW, TY, EN, sv_w, ↓reduceIte, reduceCtorEq, Nat.reduceEqDiff, Nat.reduceAdd, Nat.reduceLeDiff, Nat.reduceLT, hc15]
        refine Lend.eq ?_
        first
          | rw [← hx, if_pos (by omega)]
          | rw [← hx]
          | rw [hx]
  · skip
    simp only [Bool.not_true, Bool.not_false] at hg7
    have p7 := hg7
    try simp only [decide_eq_true_eq, decide_eq_false_iff_not, beq_iff_eq, bne_iff_ne, beq_eq_false_iff_ne, bne_eq_false_iff_eq, Bool.not_eq_true', Bool.not_eq_false'] at p7
    simp only [↓SP, SX, SW, TY, EN, sv_w, ↓reduceIte, reduceCtorEq, Nat.reduceEqDiff, Nat.reduceAdd, Nat.reduceLeDiff, Nat.reduceLT, hg7]
    refine hK _ _ ?_
    clear hK K
    refine wpT_ifT (by simp only [↓SP, SX, SW, TY, EN, sv_w, ↓reduceIte, reduceCtorEq, Nat.reduceEqDiff, Nat.reduceAdd, Nat.reduceLeDiff, Nat.reduceLT, hg7]) ?_
    have hx : sizesE xs = 6 := if_pos (by omega)
    refine wpT_seq ?_
    refine wpT_region (by kernel_rfl) (fun K hK => ?_)
    simp only [↓SP, SX, SW, TY, EN, sv_w, ↓reduceIte, reduceCtorEq, Nat.reduceEqDiff, Nat.reduceAdd, Nat.reduceLeDiff, Nat.reduceLT, hg7]
    refine hK _ _ ?_
    clear hK K
    refine wpT_ret ⟨.inr rfl, ?_⟩
    show optK (resA _ _ _ [.tmp 2]) _
    simp only [SR, Option.map_some, Option.bind_some, ↓SP, SX, SW, TY, EN, sv_w, ↓reduceIte, reduceCtorEq, Nat.reduceEqDiff, Nat.reduceAdd, Nat.reduceLeDiff, Nat.reduceLT, hg7]
    refine Lend.eq ?_
    first
      | rw [← hx, if_pos (by omega)]
      | rw [← hx]
      | rw [hx]
theorem c200 (sz : List Int) (w : Wr) (hz : ∀ x ∈ sz, 1 ≤ x ∧ x ≤ 4096) : Pu Tryz.prog (.fn (.func 200) [] []) [.lst (sz.map I), w.av] (I (fitsE sz w)) := by
  refine pu_func Tryz.func200 rfl (by kernel_rfl) (by show _ ≤ 46; simp only [List.length_append, List.length_cons, List.length_nil]; decide) (by simp only [IDF]) (by simp only [IDF, and_tt, implies_true]) (by simp only [IDF, wr_idf, and_tt, implies_true]) ?_
  rw [Tryz.ntmps200]
  refine wpT_seq ?_
  refine wpT_region (by kernel_rfl) (fun K hK => ?_)
  simp only [↓SP, SX, SW, TY, EN, sv_w, ↓reduceIte, reduceCtorEq, Nat.reduceEqDiff, Nat.reduceAdd, Nat.reduceLeDiff, Nat.reduceLT, Wr.av]
  refine hK _ _ ?_
  clear hK K
  refine wpT_seq ?_
  refine wpT_seq ?_
  refine wpT_region (by kernel_rfl) (fun K hK => ?_)
  simp only [↓SP, SX, SW, TY, EN, sv_w, ↓reduceIte, reduceCtorEq, Nat.reduceEqDiff, Nat.reduceAdd, Nat.reduceLeDiff, Nat.reduceLT, Wr.av]
  refine guardO_split (fun hg8 => ?_) (fun hg8 => ?_)
  · skip
    have p8 := hg8
    try simp only [decide_eq_true_eq, decide_eq_false_iff_not, beq_iff_eq, bne_iff_ne, beq_eq_false_iff_ne, bne_eq_false_iff_eq, Bool.not_eq_true', Bool.not_eq_false'] at p8
    simp only [↓SP, SX, SW, TY, EN, sv_w, ↓reduceIte, reduceCtorEq, Nat.reduceEqDiff, Nat.reduceAdd, Nat.reduceLeDiff, Nat.reduceLT, Wr.av, hg8]
    refine hK _ _ ?_
    clear hK K
    refine wpT_if (by rfl) (fun hc14 => ?_) (fun hc14 => ?_)
    · skip
      have p14 := hc14
      try simp only [decide_eq_true_eq, decide_eq_false_iff_not, beq_iff_eq, bne_iff_ne, beq_eq_false_iff_ne, bne_eq_false_iff_eq, Bool.not_eq_true', Bool.not_eq_false'] at p14
      have hx : fitsE sz w = 7 := if_pos (by omega)
      refine wpT_seq ?_
      refine wpT_region (by kernel_rfl) (fun K hK => ?_)
      simp only [↓SP, SX, SW, TY, EN, sv_w, ↓reduceIte, reduceCtorEq, Nat.reduceEqDiff, Nat.reduceAdd, Nat.reduceLeDiff, Nat.reduceLT, Wr.av, hg8, hc14]
      refine hK _ _ ?_
      clear hK K
      refine wpT_ret ⟨.inr rfl, ?_⟩
      show optK (resA _ _ _ [.tmp 4]) _
      simp only [SR, Option.map_some, Option.bind_some, ↓SP, SX, SW, TY, EN, sv_w, ↓reduceIte, reduceCtorEq, Nat.reduceEqDiff, Nat.reduceAdd, Nat.reduceLeDiff, Nat.reduceLT, Wr.av, hg8, hc14]
      refine Lend.eq ?_
      first
        | rw [hx]
        | rw [hx0, if_pos (by omega)]
        | rw [hx0, if_neg (by omega), if_pos (by omega)]
        | rw [hx0, if_neg (by omega), if_neg (by omega)]
    · skip
      have p14 := hc14
      try simp only [decide_eq_true_eq, decide_eq_false_iff_not, beq_iff_eq, bne_iff_ne, beq_eq_false_iff_ne, bne_eq_false_iff_eq, Bool.not_eq_true', Bool.not_eq_false'] at p14
      obtain ⟨n, hv⟩ := Int.eq_ofNat_of_zero_le (a := w.vol) (by omega)
      have hlt : n < sz.length := by omega
      have hg := at_map (f := I) hlt
      have hzn := hz _ (List.getElem_mem hlt)
      have hd : sz.getD w.vol.toNat 0 = sz[n] := by rw [hv]; simp [List.getD_eq_getElem?_getD, hlt]
      have hx0 : fitsE sz w = if w.data.length = 0 then 1 else if w.start < 0 ∨ w.start ≥ sz[n] ∨ w.data.length > sz[n] - w.start then 2 else 0 := by
        rw [fitsE, if_neg (by omega), hd]
      refine wpT_skip ?_
      refine wpT_seq ?_
      refine wpT_seq ?_
      refine wpT_region (by kernel_rfl) (fun K hK => ?_)
      simp only [↓SP, SX, SW, TY, EN, sv_w, ↓reduceIte, reduceCtorEq, Nat.reduceEqDiff, Nat.reduceAdd, Nat.reduceLeDiff, Nat.reduceLT, Wr.av, hg8, hc14]
      refine hK _ _ ?_
      clear hK K
      refine wpT_if (by rfl) (fun hc18 => ?_) (fun hc18 => ?_)
      · skip
        have p18 := hc18
        try simp only [decide_eq_true_eq, decide_eq_false_iff_not, beq_iff_eq, bne_iff_ne, beq_eq_false_iff_ne, bne_eq_false_iff_eq, Bool.not_eq_true', Bool.not_eq_false'] at p18
        refine wpT_seq ?_
        refine wpT_region (by kernel_rfl) (fun K hK => ?_)
        simp only [↓SP, SX, SW, TY, EN, sv_w, ↓reduceIte, reduceCtorEq, Nat.reduceEqDiff, Nat.reduceAdd, Nat.reduceLeDiff, Nat.reduceLT, Wr.av, hg8, hc14, hc18]
        refine hK _ _ ?_
        clear hK K
        refine wpT_ret ⟨.inr rfl, ?_⟩
        show optK (resA _ _ _ [.tmp 4]) _
        simp only [SR, Option.map_some, Option.bind_some, ↓SP, SX, SW, TY, EN, sv_w, ↓reduceIte, reduceCtorEq, Nat.reduceEqDiff, Nat.reduceAdd, Nat.reduceLeDiff, Nat.reduceLT, Wr.av, hg8, hc14, hc18]
        refine Lend.eq ?_
        first
          | rw [hx]
          | rw [hx0, if_pos (by omega)]
          | rw [hx0, if_neg (by omega), if_pos (by omega)]
          | rw [hx0, if_neg (by omega), if_neg (by omega)]
      · skip
        have p18 := hc18
        try simp only [decide_eq_true_eq, decide_eq_false_iff_not, beq_iff_eq, bne_iff_ne, beq_eq_false_iff_ne, bne_eq_false_iff_eq, Bool.not_eq_true', Bool.not_eq_false'] at p18
        refine wpT_skip ?_
        refine wpT_seq ?_
        refine wpT_seq ?_
        refine wpT_drawn [] mixed (by kernel_rfl) (m := 27) rfl (fun K hK => ?_)
        simp only [↓SP, SX, SW, TY, EN, sv_w, ↓reduceIte, reduceCtorEq, Nat.reduceEqDiff, Nat.reduceAdd, Nat.reduceLeDiff, Nat.reduceLT, Wr.av, hv, hg, hg8, hc14, hc18]
        refine guardD_split (fun hg22 => ?_) (fun hg22 => ?_)
        · skip
          have p22 := hg22
          try simp only [decide_eq_true_eq, decide_eq_false_iff_not, beq_iff_eq, bne_iff_ne, beq_eq_false_iff_ne, bne_eq_false_iff_eq, Bool.not_eq_true', Bool.not_eq_false'] at p22
          simp only [↓SP, SX, SW, TY, EN, sv_w, ↓reduceIte, reduceCtorEq, Nat.reduceEqDiff, Nat.reduceAdd, Nat.reduceLeDiff, Nat.reduceLT, Wr.av, hv, hg, hg8, hc14, hc18, hg22]
          refine guardD_split (fun hg32 => ?_) (fun hg32 => ?_)
          · skip
            have p32 := hg32
            try simp only [decide_eq_true_eq, decide_eq_false_iff_not, beq_iff_eq, bne_iff_ne, beq_eq_false_iff_ne, bne_eq_false_iff_eq, Bool.not_eq_true', Bool.not_eq_false'] at p32
            have hw2 : IntKind.i64.wrap (sz[n] - w.start) = sz[n] - w.start := wrap64 (by omega) (by omega)
            simp only [↓SP, SX, SW, TY, EN, sv_w, ↓reduceIte, reduceCtorEq, Nat.reduceEqDiff, Nat.reduceAdd, Nat.reduceLeDiff, Nat.reduceLT, Wr.av, hv, hg, hg8, hc14, hc18, hg22, hw2, hg32]
            refine hK _ _ ?_
            clear hK K
            refine wpT_if (by rfl) (fun hc45 => ?_) (fun hc45 => ?_)
            · skip
              have p45 := hc45
              try simp only [decide_eq_true_eq, decide_eq_false_iff_not, beq_iff_eq, bne_iff_ne, beq_eq_false_iff_ne, bne_eq_false_iff_eq, Bool.not_eq_true', Bool.not_eq_false'] at p45
              refine wpT_seq ?_
              refine wpT_region (by kernel_rfl) (fun K hK => ?_)
              simp only [↓SP, SX, SW, TY, EN, sv_w, ↓reduceIte, reduceCtorEq, Nat.reduceEqDiff, Nat.reduceAdd, Nat.reduceLeDiff, Nat.reduceLT, Wr.av, hg8, hc14, hc18, hg22, hw2, hg32, hc45]
              refine hK _ _ ?_
              clear hK K
              refine wpT_ret ⟨.inr rfl, ?_⟩
              show optK (resA _ _ _ [.tmp 4]) _
              simp only [SR, Option.map_some, Option.bind_some, ↓SP, SX, SW, TY, EN, sv_w, ↓reduceIte, reduceCtorEq, Nat.reduceEqDiff, Nat.reduceAdd, Nat.reduceLeDiff, Nat.reduceLT, Wr.av, hg8, hc14, hc18, hg22, hw2, hg32, hc45]
              refine Lend.eq ?_
              first
                | rw [hx]
                | rw [hx0, if_pos (by omega)]
                | rw [hx0, if_neg (by omega), if_pos (by omega)]
                | rw [hx0, if_neg (by omega), if_neg (by omega)]
            · skip
              have p45 := hc45
              try simp only [decide_eq_true_eq, decide_eq_false_iff_not, beq_iff_eq, bne_iff_ne, beq_eq_false_iff_ne, bne_eq_false_iff_eq, Bool.not_eq_true', Bool.not_eq_false'] at p45
              refine wpT_skip ?_
              refine wpT_seq ?_
              refine wpT_region (by kernel_rfl) (fun K hK => ?_)
              simp only [↓SP, SX, SW, TY, EN, sv_w, ↓reduceIte, reduceCtorEq, Nat.reduceEqDiff, Nat.reduceAdd, Nat.reduceLeDiff, Nat.reduceLT, Wr.av, hg8, hc14, hc18, hg22, hw2, hg32, hc45]
              refine hK _ _ ?_
              clear hK K
              refine wpT_ret ⟨.inr rfl, ?_⟩
              show optK (resA _ _ _ [.tmp 4]) _
              simp only [SR, Option.map_some, Option.bind_some, ↓SP, SX, SW, TY, EN, sv_w, ↓reduceIte, reduceCtorEq, Nat.reduceEqDiff, Nat.reduceAdd, Nat.reduceLeDiff, Nat.reduceLT, Wr.av, hg8, hc14, hc18, hg22, hw2, hg32, hc45]
              refine Lend.eq ?_
              first
                | rw [hx]
                | rw [hx0, if_pos (by omega)]
                | rw [hx0, if_neg (by omega), if_pos (by omega)]
                | rw [hx0, if_neg (by omega), if_neg (by omega)]
          · skip
            simp only [Bool.not_true, Bool.not_false] at hg32
            have p32 := hg32
            try simp only [decide_eq_true_eq, decide_eq_false_iff_not, beq_iff_eq, bne_iff_ne, beq_eq_false_iff_ne, bne_eq_false_iff_eq, Bool.not_eq_true', Bool.not_eq_false'] at p32
            simp only [↓SP, SX, SW, TY, EN, sv_w, ↓reduceIte, reduceCtorEq, Nat.reduceEqDiff, Nat.reduceAdd, Nat.reduceLeDiff, Nat.reduceLT, Wr.av, hv, hg, hg8, hc14, hc18, hg22, hg32]
            refine hK _ _ ?_
            clear hK K
            refine wpT_ifT (by simp only [↓SP, SX, SW, TY, EN, sv_w, ↓reduceIte, reduceCtorEq, Nat.reduceEqDiff, Nat.reduceAdd, Nat.reduceLeDiff, Nat.reduceLT, Wr.av, hg8, hc14, hc18, hg22, hg32]) ?_
            refine wpT_seq ?_
            refine wpT_region (by kernel_rfl) (fun K hK => ?_)
            simp only [↓SP, SX, SW, TY, EN, sv_w, ↓reduceIte, reduceCtorEq, Nat.reduceEqDiff, Nat.reduceAdd, Nat.reduceLeDiff, Nat.reduceLT, Wr.av, hg8, hc14, hc18, hg22, hg32]
            refine hK _ _ ?_
            clear hK K
            refine wpT_ret ⟨.inr rfl, ?_⟩
            show optK (resA _ _ _ [.tmp 4]) _
            simp only [SR, Option.map_some, Option.bind_some, ↓SP, SX, SW, TY, EN, sv_w, ↓reduceIte, reduceCtorEq, Nat.reduceEqDiff, Nat.reduceAdd, Nat.reduceLeDiff, Nat.reduceLT, Wr.av, hg8, hc14, hc18, hg22, hg32]
            refine Lend.eq ?_
            first
              | rw [hx]
              | rw [hx0, if_pos (by omega)]
              | rw [hx0, if_neg (by omega), if_pos (by omega)]
              | rw [hx0, if_neg (by omega), if_neg (by omega)]
        · skip
          simp only [Bool.not_true, Bool.not_false] at hg22
          have p22 := hg22
          try simp only [decide_eq_true_eq, decide_eq_false_iff_not, beq_iff_eq, bne_iff_ne, beq_eq_false_iff_ne, bne_eq_false_iff_eq, Bool.not_eq_true', Bool.not_eq_false'] at p22
          simp only [↓SP, SX, SW, TY, EN, sv_w, ↓reduceIte, reduceCtorEq, Nat.reduceEqDiff, Nat.reduceAdd, Nat.reduceLeDiff, Nat.reduceLT, Wr.av, hv, hg, hg8, hc14, hc18, hg22]
          refine hK _ _ ?_
          clear hK K
          refine wpT_ifT (by simp only [↓SP, SX, SW, TY, EN, sv_w, ↓reduceIte, reduceCtorEq, Nat.reduceEqDiff, Nat.reduceAdd, Nat.reduceLeDiff, Nat.reduceLT, Wr.av, hg8, hc14, hc18, hg22]) ?_
          refine wpT_seq ?_
          refine wpT_region (by kernel_rfl) (fun K hK => ?_)
          simp only [↓SP, SX, SW, TY, EN, sv_w, ↓reduceIte, reduceCtorEq, Nat.reduceEqDiff, Nat.reduceAdd, Nat.reduceLeDiff, Nat.reduceLT, Wr.av, hg8, hc14, hc18, hg22]
          refine hK _ _ ?_
          clear hK K
          refine wpT_ret ⟨.inr rfl, ?_⟩
          show optK (resA _ _ _ [.tmp 4]) _
          simp only [SR, Option.map_some, Option.bind_some, ↓SP, SX, SW, TY, EN, sv_w, ↓reduceIte, reduceCtorEq, Nat.reduceEqDiff, Nat.reduceAdd, Nat.reduceLeDiff, Nat.reduceLT, Wr.av, hg8, hc14, hc18, hg22]
          refine Lend.eq ?_
          first
            | rw [hx]
            | rw [hx0, if_pos (by omega)]
            | rw [hx0, if_neg (by omega), if_pos (by omega)]
            | rw [hx0, if_neg (by omega), if_neg (by omega)]
  · skip
    simp only [Bool.not_true, Bool.not_false] at hg8
    have p8 := hg8
    try simp only [decide_eq_true_eq, decide_eq_false_iff_not, beq_iff_eq, bne_iff_ne, beq_eq_false_iff_ne, bne_eq_false_iff_eq, Bool.not_eq_true', Bool.not_eq_false'] at p8
    simp only [↓SP, SX, SW, TY, EN, sv_w, ↓reduceIte, reduceCtorEq, Nat.reduceEqDiff, Nat.reduceAdd, Nat.reduceLeDiff, Nat.reduceLT, Wr.av, hg8]
    refine hK _ _ ?_
    clear hK K
    refine wpT_ifT (by simp only [↓SP, SX, SW, TY, EN, sv_w, ↓reduceIte, reduceCtorEq, Nat.reduceEqDiff, Nat.reduceAdd, Nat.reduceLeDiff, Nat.reduceLT, Wr.av, hg8]) ?_
    have hx : fitsE sz w = 7 := if_pos (by omega)
    refine wpT_seq ?_
    refine wpT_region (by kernel_rfl) (fun K hK => ?_)
    simp only [↓SP, SX, SW, TY, EN, sv_w, ↓reduceIte, reduceCtorEq, Nat.reduceEqDiff, Nat.reduceAdd, Nat.reduceLeDiff, Nat.reduceLT, Wr.av, hg8]
    refine hK _ _ ?_
    clear hK K
    refine wpT_ret ⟨.inr rfl, ?_⟩
    show optK (resA _ _ _ [.tmp 4]) _
    simp only [SR, Option.map_some, Option.bind_some, ↓SP, SX, SW, TY, EN, sv_w, ↓reduceIte, reduceCtorEq, Nat.reduceEqDiff, Nat.reduceAdd, Nat.reduceLeDiff, Nat.reduceLT, Wr.av, hg8]
    refine Lend.eq ?_
    first
      | rw [hx]
      | rw [hx0, if_pos (by omega)]
      | rw [hx0, if_neg (by omega), if_pos (by omega)]
      | rw [hx0, if_neg (by omega), if_neg (by omega)]
end Go.Proofs.YtlmjpgmaefokdaaGreat
end

section
set_option linter.unusedSimpArgs false
set_option linter.unusedVariables false
namespace Go.Proofs.YtlmjpgmaefokdaaGreat
open Go.Proofs
set_option maxRecDepth 10000
def badW (x w : Wr) : Bool := decide (w.vol < x.vol ∨ (w.vol = x.vol ∧ w.start < x.start + x.data.length + 1))
def badO (p : Option Wr) (w : Wr) : Bool := match p with
  | none => false
  | some x => badW x w
def wsE (sz : List Int) : Option Wr → List Wr → Int
  | _, [] => 0
  | p, w :: ws => if fitsE sz w ≠ 0 then fitsE sz w else if badO p w = true then 3 else wsE sz (some w) ws
def wrsE (ws : List Wr) (sz : List Int) : Int := if sizesE sz ≠ 0 then sizesE sz else wsE sz none ws
def prevW (xs : List Wr) (i : Nat) : Option Wr := if i = 0 then none else xs[i - 1]?
theorem prevW_succ {xs : List Wr} {i : Nat} (h : i < xs.length) : prevW xs (i + 1) = some xs[i] := by simp [prevW, h]
theorem fits_facts {sz : List Int} {w : Wr} (hz : ∀ x ∈ sz, 1 ≤ x ∧ x ≤ 4096) (h : fitsE sz w = 0) : 0 ≤ w.vol ∧ w.vol < sz.length ∧ 0 ≤ w.start ∧ w.start + w.data.length ≤ 4096 ∧ 1 ≤ w.data.length := by
  unfold fitsE at h
  split at h
  · simp at h
  · split at h
    · simp at h
    · split at h
      · simp at h
      · rename_i h1 h2 h3
        have hlt : w.vol.toNat < sz.length := by omega
        have := hz _ (List.getElem_mem hlt)
        rw [List.getD_eq_getElem?_getD, List.getElem?_eq_getElem hlt] at h3
        simp only [Option.getD_some] at h3
        omega
theorem c151 (xs : List Wr) (sz : List Int) (hl : xs.length < 4611686018427387904) (hs : sz.length < 4611686018427387904) : Pu Tryz.prog (.fn (.func 151) [] []) [.lst (xs.map Wr.av), .lst (sz.map I)] (I (wrsE xs sz)) := by
  refine pu_func Tryz.func151 rfl (by kernel_rfl) (by show _ ≤ 69; simp only [List.length_append, List.length_cons, List.length_nil]; decide) (by simp only [IDF]) (by simp only [IDF, and_tt, implies_true]) (by simp only [IDF, wr_idf, and_tt, implies_true]) ?_
  rw [Tryz.ntmps151]
  refine wpT_seq ?_
  refine wpT_region (by kernel_rfl) (fun K hK => ?_)
  simp only [↓SP, SX, SW, TY, EN, sv_w, ↓reduceIte, reduceCtorEq, Nat.reduceEqDiff, Nat.reduceAdd, Nat.reduceLeDiff, Nat.reduceLT, wr_cs]
  refine hK _ _ ?_
  clear hK K
  refine wpT_seq ?_
  refine wpT_seq ?_
  refine wpT_region (by kernel_rfl) (fun K hK => ?_)
  simp only [↓SP, SX, SW, TY, EN, sv_w, ↓reduceIte, reduceCtorEq, Nat.reduceEqDiff, Nat.reduceAdd, Nat.reduceLeDiff, Nat.reduceLT, wr_cs]
  refine Pu.call (c149 _ hs) ?_
  simp only [↓SP, SX, SW, TY, EN, sv_w, ↓reduceIte, reduceCtorEq, Nat.reduceEqDiff, Nat.reduceAdd, Nat.reduceLeDiff, Nat.reduceLT, wr_cs]
  refine hK _ _ ?_
  clear hK K
  refine wpT_seq ?_
  refine wpT_region (by kernel_rfl) (fun K hK => ?_)
  simp only [↓SP, SX, SW, TY, EN, sv_w, ↓reduceIte, reduceCtorEq, Nat.reduceEqDiff, Nat.reduceAdd, Nat.reduceLeDiff, Nat.reduceLT, wr_cs]
  refine hK _ _ ?_
  clear hK K
  refine wpT_if (by rfl) (fun hc12 => ?_) (fun hc12 => ?_)
  · skip
    have p12 := hc12
    try simp only [decide_eq_true_eq, decide_eq_false_iff_not, beq_iff_eq, bne_iff_ne, beq_eq_false_iff_ne, bne_eq_false_iff_eq, Bool.not_eq_true', Bool.not_eq_false'] at p12
    have hx : wrsE xs sz = sizesE sz := if_pos p12
    refine wpT_seq ?_
    refine wpT_region (by kernel_rfl) (fun K hK => ?_)
    simp only [↓SP, SX, SW, TY, EN, sv_w, ↓reduceIte, reduceCtorEq, Nat.reduceEqDiff, Nat.reduceAdd, Nat.reduceLeDiff, Nat.reduceLT, wr_cs, hc12]
    refine hK _ _ ?_
    clear hK K
    refine wpT_ret ⟨.inr rfl, ?_⟩
    show optK (resA _ _ _ [.tmp 4]) _
    simp only [SR, Option.map_some, Option.bind_some, ↓SP, SX, SW, TY, EN, sv_w, ↓reduceIte, reduceCtorEq, Nat.reduceEqDiff, Nat.reduceAdd, Nat.reduceLeDiff, Nat.reduceLT, wr_cs, hc12]
    refine Lend.eq ?_
    first
      | rw [hx]
      | rw [← hx, if_pos hb]
      | rw [← hx]
  · skip
    have p12 := hc12
    try simp only [decide_eq_true_eq, decide_eq_false_iff_not, beq_iff_eq, bne_iff_ne, beq_eq_false_iff_ne, bne_eq_false_iff_eq, Bool.not_eq_true', Bool.not_eq_false'] at p12
    have hx : wrsE xs sz = wsE sz none xs := if_neg (by omega)
    have hz := sizesE_le p12
    refine wpT_skip ?_
    refine wpT_seq ?_
    refine wpT_seq ?_
    refine wpT_region (by kernel_rfl) (fun K hK => ?_)
    simp only [↓SP, SX, SW, TY, EN, sv_w, ↓reduceIte, reduceCtorEq, Nat.reduceEqDiff, Nat.reduceAdd, Nat.reduceLeDiff, Nat.reduceLT, wr_cs, hc12]
    refine hK _ _ ?_
    clear hK K
    refine wpT_block ?_
    refine wpT_loop ?_
    refine wpT_keep0 ?_
    rw [hx]
    clear hx
    refine wpT_ind (fun (i : Nat) tm' h' => (∃ m, h' = Hp.of [] m) ∧ tm' 0 = .lst (xs.map Wr.av) ∧ tm' 1 = .lst (sz.map I) ∧ tm' 6 = I i ∧ i ≤ xs.length ∧ wsE sz (prevW xs i) (xs.drop i) = wsE sz none xs ∧ ∀ w ∈ xs.take i, fitsE sz w = 0) (fun i => xs.length - i) ?_ 0 ⟨⟨_, rfl⟩, rfl, rfl, rfl, Nat.zero_le _, rfl, by simp⟩
    rintro i tm' _ ⟨⟨m, rfl⟩, e0, e1, e6, hi, hx, hf⟩ IH
    refine wpT_inLoop ?_
    refine wpT_seq ?_
    refine wpT_seq ?_
    refine wpT_region (by kernel_rfl) (fun K hK => ?_)
    simp only [↓SP, SX, SW, TY, EN, sv_w, ↓reduceIte, reduceCtorEq, Nat.reduceEqDiff, Nat.reduceAdd, Nat.reduceLeDiff, Nat.reduceLT, wr_cs, e0, e6]
    refine hK _ _ ?_
    clear hK K
    refine wpT_if (by rfl) (fun hc17 => ?_) (fun hc17 => ?_)
    · skip
      have p17 := hc17
      try simp only [decide_eq_true_eq, decide_eq_false_iff_not, beq_iff_eq, bne_iff_ne, beq_eq_false_iff_ne, bne_eq_false_iff_eq, Bool.not_eq_true', Bool.not_eq_false'] at p17
      have hlt : i < xs.length := by omega
      have hg := at_map (f := Wr.av) hlt
      rw [List.drop_eq_getElem_cons hlt, wsE] at hx
      refine wpT_skip ?_
      refine wpT_seq ?_
      refine wpT_block ?_
      refine wpT_seq ?_
      refine wpT_seq ?_
      refine wpT_region (by kernel_rfl) (fun K hK => ?_)
      simp only [↓SP, SX, SW, TY, EN, sv_w, ↓reduceIte, reduceCtorEq, Nat.reduceEqDiff, Nat.reduceAdd, Nat.reduceLeDiff, Nat.reduceLT, wr_cs, e0, e1, e6, hg, hc17]
      refine Pu.call (c200 _ _ hz) ?_
      simp only [↓SP, SX, SW, TY, EN, sv_w, ↓reduceIte, reduceCtorEq, Nat.reduceEqDiff, Nat.reduceAdd, Nat.reduceLeDiff, Nat.reduceLT, wr_cs, e0, e1, e6, hg, hc17]
      refine hK _ _ ?_
      clear hK K
      refine wpT_seq ?_
      refine wpT_region (by kernel_rfl) (fun K hK => ?_)
      simp only [↓SP, SX, SW, TY, EN, sv_w, ↓reduceIte, reduceCtorEq, Nat.reduceEqDiff, Nat.reduceAdd, Nat.reduceLeDiff, Nat.reduceLT, wr_cs, hc17]
      refine hK _ _ ?_
      clear hK K
      refine wpT_if (by rfl) (fun hc27 => ?_) (fun hc27 => ?_)
      · skip
        have p27 := hc27
        try simp only [decide_eq_true_eq, decide_eq_false_iff_not, beq_iff_eq, bne_iff_ne, beq_eq_false_iff_ne, bne_eq_false_iff_eq, Bool.not_eq_true', Bool.not_eq_false'] at p27
        rw [if_pos p27] at hx
        refine wpT_seq ?_
        refine wpT_region (by kernel_rfl) (fun K hK => ?_)
        simp only [↓SP, SX, SW, TY, EN, sv_w, ↓reduceIte, reduceCtorEq, Nat.reduceEqDiff, Nat.reduceAdd, Nat.reduceLeDiff, Nat.reduceLT, wr_cs, hc17, hc27]
        refine hK _ _ ?_
        clear hK K
        refine wpT_ret ⟨.inr rfl, ?_⟩
        show optK (resA _ _ _ [.tmp 4]) _
        simp only [SR, Option.map_some, Option.bind_some, ↓SP, SX, SW, TY, EN, sv_w, ↓reduceIte, reduceCtorEq, Nat.reduceEqDiff, Nat.reduceAdd, Nat.reduceLeDiff, Nat.reduceLT, wr_cs, hc17, hc27]
        refine Lend.eq ?_
        first
          | rw [hx]
          | rw [← hx, if_pos hb]
          | rw [← hx]
      · skip
        have p27 := hc27
        try simp only [decide_eq_true_eq, decide_eq_false_iff_not, beq_iff_eq, bne_iff_ne, beq_eq_false_iff_ne, bne_eq_false_iff_eq, Bool.not_eq_true', Bool.not_eq_false'] at p27
        rw [if_neg (by omega)] at hx
        have hf' : ∀ w ∈ xs.take (i + 1), fitsE sz w = 0 := by
          intro w hw
          rw [List.take_add_one, List.getElem?_eq_getElem hlt] at hw
          rcases List.mem_append.1 hw with h | h
          · exact hf w h
          · simp at h; subst h; exact p27
        have hw := fits_facts hz p27
        refine wpT_skip ?_
        refine wpT_seq ?_
        refine wpT_seq ?_
        refine wpT_region (by kernel_rfl) (fun K hK => ?_)
        simp only [↓SP, SX, SW, TY, EN, sv_w, ↓reduceIte, reduceCtorEq, Nat.reduceEqDiff, Nat.reduceAdd, Nat.reduceLeDiff, Nat.reduceLT, wr_cs, e6, hc17, hc27]
        refine hK _ _ ?_
        clear hK K
        refine wpT_if (by rfl) (fun hc30 => ?_) (fun hc30 => ?_)
        · skip
          have p30 := hc30
          try simp only [decide_eq_true_eq, decide_eq_false_iff_not, beq_iff_eq, bne_iff_ne, beq_eq_false_iff_ne, bne_eq_false_iff_eq, Bool.not_eq_true', Bool.not_eq_false'] at p30
          have hi0 : i = 0 := by omega
          have hx' : wsE sz (prevW xs (i + 1)) (xs.drop (i + 1)) = wsE sz none xs := by
            have hp : prevW xs i = none := if_pos hi0
            rw [hp] at hx
            rw [prevW_succ hlt]
            simpa [badO] using hx
          refine wpT_exit rfl ?_
          refine wpT_region (by kernel_rfl) (fun K hK => ?_)
          simp only [↓SP, SX, SW, TY, EN, sv_w, ↓reduceIte, reduceCtorEq, Nat.reduceEqDiff, Nat.reduceAdd, Nat.reduceLeDiff, Nat.reduceLT, wr_cs, e6, wrap64 (x := (i : Int) + 1) (by omega) (by omega), hc17, hc27, hc30]
          refine hK _ _ ?_
          clear hK K
          refine wpT_keep0 ?_
          refine IH (i + 1) _ _ (by omega) ⟨⟨_, rfl⟩, by simp only [↓SP, SX, SW, TY, EN, sv_w, ↓reduceIte, reduceCtorEq, Nat.reduceEqDiff, Nat.reduceAdd, Nat.reduceLeDiff, Nat.reduceLT, wr_cs, e0], by simp only [↓SP, SX, SW, TY, EN, sv_w, ↓reduceIte, reduceCtorEq, Nat.reduceEqDiff, Nat.reduceAdd, Nat.reduceLeDiff, Nat.reduceLT, wr_cs, e1], by simp only [↓SP, SX, SW, TY, EN, sv_w, ↓reduceIte, reduceCtorEq, Nat.reduceEqDiff, Nat.reduceAdd, Nat.reduceLeDiff, Nat.reduceLT, wr_cs, Int.natCast_add, Int.cast_ofNat_Int], by omega, hx', hf'⟩
        · skip
          have p30 := hc30
          try simp only [decide_eq_true_eq, decide_eq_false_iff_not, beq_iff_eq, bne_iff_ne, beq_eq_false_iff_ne, bne_eq_false_iff_eq, Bool.not_eq_true', Bool.not_eq_false'] at p30
          have hi1 : IntKind.i64.wrap ((i : Int) - 1) = ((i - 1 : Nat) : Int) := by rw [wrap64 (by omega) (by omega)]; omega
          have hlt1 : i - 1 < xs.length := by omega
          have hg1 := at_map (f := Wr.av) hlt1
          have hwp := fits_facts hz (hf xs[i - 1] (List.mem_take_iff_getElem.2 ⟨i - 1, by omega, rfl⟩))
          have hpr : prevW xs i = some xs[i - 1] := by rw [prevW, if_neg (by omega)]; simp [hlt1]
          rw [hpr] at hx
          refine wpT_skip ?_
          refine wpT_seq ?_
          refine wpT_region (by kernel_rfl) (fun K hK => ?_)
          simp only [↓SP, SX, SW, TY, EN, sv_w, ↓reduceIte, reduceCtorEq, Nat.reduceEqDiff, Nat.reduceAdd, Nat.reduceLeDiff, Nat.reduceLT, wr_cs, e0, e6, hi1, hg1, hc17, hc27, hc30]
          refine hK _ _ ?_
          clear hK K
          refine wpT_seq ?_
          refine wpT_drawn [] mixed (by kernel_rfl) (m := 33) rfl (fun K hK => ?_)
          simp only [↓SP, SX, SW, TY, EN, sv_w, ↓reduceIte, reduceCtorEq, Nat.reduceEqDiff, Nat.reduceAdd, Nat.reduceLeDiff, Nat.reduceLT, wr_cs, e0, e6, hg, Wr.av, wrap64 (x := xs[i - 1].start + (xs[i - 1].data.length : Int)) (by omega) (by omega), wrap64 (x := xs[i - 1].start + (xs[i - 1].data.length : Int) + 1) (by omega) (by omega), hc17, hc27, hc30]
          refine guardD_split (fun hg44 => ?_) (fun hg44 => ?_)
          · skip
            have p44 := hg44
            try simp only [decide_eq_true_eq, decide_eq_false_iff_not, beq_iff_eq, bne_iff_ne, beq_eq_false_iff_ne, bne_eq_false_iff_eq, Bool.not_eq_true', Bool.not_eq_false'] at p44
            simp only [↓SP, SX, SW, TY, EN, sv_w, ↓reduceIte, reduceCtorEq, Nat.reduceEqDiff, Nat.reduceAdd, Nat.reduceLeDiff, Nat.reduceLT, wr_cs, e0, e6, hg, Wr.av, wrap64 (x := xs[i - 1].start + (xs[i - 1].data.length : Int)) (by omega) (by omega), wrap64 (x := xs[i - 1].start + (xs[i - 1].data.length : Int) + 1) (by omega) (by omega), hc17, hc27, hc30, hg44]
            refine guardD_split (fun hg53 => ?_) (fun hg53 => ?_)
            · skip
              have p53 := hg53
              try simp only [decide_eq_true_eq, decide_eq_false_iff_not, beq_iff_eq, bne_iff_ne, beq_eq_false_iff_ne, bne_eq_false_iff_eq, Bool.not_eq_true', Bool.not_eq_false'] at p53
              simp only [↓SP, SX, SW, TY, EN, sv_w, ↓reduceIte, reduceCtorEq, Nat.reduceEqDiff, Nat.reduceAdd, Nat.reduceLeDiff, Nat.reduceLT, wr_cs, e0, e6, hg, Wr.av, wrap64 (x := xs[i - 1].start + (xs[i - 1].data.length : Int)) (by omega) (by omega), wrap64 (x := xs[i - 1].start + (xs[i - 1].data.length : Int) + 1) (by omega) (by omega), hc17, hc27, hc30, hg44, hg53]
              refine hK _ _ ?_
              clear hK K
              refine wpT_if (by rfl) (fun hc68 => ?_) (fun hc68 => ?_)
              · skip
                have p68 := hc68
                try simp only [decide_eq_true_eq, decide_eq_false_iff_not, beq_iff_eq, bne_iff_ne, beq_eq_false_iff_ne, bne_eq_false_iff_eq, Bool.not_eq_true', Bool.not_eq_false'] at p68
                have hb : badO (some xs[i - 1]) xs[i] = true := decide_eq_true (by omega)
                refine wpT_seq ?_
                refine wpT_region (by kernel_rfl) (fun K hK => ?_)
                simp only [↓SP, SX, SW, TY, EN, sv_w, ↓reduceIte, reduceCtorEq, Nat.reduceEqDiff, Nat.reduceAdd, Nat.reduceLeDiff, Nat.reduceLT, wr_cs, hc17, hc27, hc30, hg44, hg53, hc68]
                refine hK _ _ ?_
                clear hK K
                refine wpT_ret ⟨.inr rfl, ?_⟩
                show optK (resA _ _ _ [.tmp 4]) _
                simp only [SR, Option.map_some, Option.bind_some, ↓SP, SX, SW, TY, EN, sv_w, ↓reduceIte, reduceCtorEq, Nat.reduceEqDiff, Nat.reduceAdd, Nat.reduceLeDiff, Nat.reduceLT, wr_cs, hc17, hc27, hc30, hg44, hg53, hc68]
                refine Lend.eq ?_
                first
                  | rw [hx]
                  | rw [← hx, if_pos hb]
                  | rw [← hx]
              · skip
                have p68 := hc68
                try simp only [decide_eq_true_eq, decide_eq_false_iff_not, beq_iff_eq, bne_iff_ne, beq_eq_false_iff_ne, bne_eq_false_iff_eq, Bool.not_eq_true', Bool.not_eq_false'] at p68
                have hb : ¬ badO (some xs[i - 1]) xs[i] = true := by
                  intro h
                  have h := of_decide_eq_true h
                  omega
                have hx' : wsE sz (prevW xs (i + 1)) (xs.drop (i + 1)) = wsE sz none xs := by
                  rw [prevW_succ hlt]
                  rwa [if_neg hb] at hx
                refine wpT_skip ?_
                refine wpT_inBlock ?_
                refine wpT_region (by kernel_rfl) (fun K hK => ?_)
                simp only [↓SP, SX, SW, TY, EN, sv_w, ↓reduceIte, reduceCtorEq, Nat.reduceEqDiff, Nat.reduceAdd, Nat.reduceLeDiff, Nat.reduceLT, wr_cs, e6, wrap64 (x := (i : Int) + 1) (by omega) (by omega), hc17, hc27, hc30, hg44, hg53, hc68]
                refine hK _ _ ?_
                clear hK K
                refine wpT_keep0 ?_
                refine IH (i + 1) _ _ (by omega) ⟨⟨_, rfl⟩, by simp only [↓SP, SX, SW, TY, EN, sv_w, ↓reduceIte, reduceCtorEq, Nat.reduceEqDiff, Nat.reduceAdd, Nat.reduceLeDiff, Nat.reduceLT, wr_cs, e0], by simp only [↓SP, SX, SW, TY, EN, sv_w, ↓reduceIte, reduceCtorEq, Nat.reduceEqDiff, Nat.reduceAdd, Nat.reduceLeDiff, Nat.reduceLT, wr_cs, e1], by simp only [↓SP, SX, SW, TY, EN, sv_w, ↓reduceIte, reduceCtorEq, Nat.reduceEqDiff, Nat.reduceAdd, Nat.reduceLeDiff, Nat.reduceLT, wr_cs, Int.natCast_add, Int.cast_ofNat_Int], by omega, hx', hf'⟩
            · skip
              simp only [Bool.not_true, Bool.not_false] at hg53
              have p53 := hg53
              try simp only [decide_eq_true_eq, decide_eq_false_iff_not, beq_iff_eq, bne_iff_ne, beq_eq_false_iff_ne, bne_eq_false_iff_eq, Bool.not_eq_true', Bool.not_eq_false'] at p53
              simp only [↓SP, SX, SW, TY, EN, sv_w, ↓reduceIte, reduceCtorEq, Nat.reduceEqDiff, Nat.reduceAdd, Nat.reduceLeDiff, Nat.reduceLT, wr_cs, e0, e6, hg, Wr.av, wrap64 (x := xs[i - 1].start + (xs[i - 1].data.length : Int)) (by omega) (by omega), wrap64 (x := xs[i - 1].start + (xs[i - 1].data.length : Int) + 1) (by omega) (by omega), hc17, hc27, hc30, hg44, hg53]
              refine hK _ _ ?_
              clear hK K
              refine wpT_ifF (by simp only [↓SP, SX, SW, TY, EN, sv_w, ↓reduceIte, reduceCtorEq, Nat.reduceEqDiff, Nat.reduceAdd, Nat.reduceLeDiff, Nat.reduceLT, wr_cs, hc17, hc27, hc30, hg44, hg53]) ?_
              have hb : ¬ badO (some xs[i - 1]) xs[i] = true := by
                intro h
                have h := of_decide_eq_true h
                omega
              have hx' : wsE sz (prevW xs (i + 1)) (xs.drop (i + 1)) = wsE sz none xs := by
                rw [prevW_succ hlt]
                rwa [if_neg hb] at hx
              refine wpT_skip ?_
              refine wpT_inBlock ?_
              refine wpT_region (by kernel_rfl) (fun K hK => ?_)
              simp only [↓SP, SX, SW, TY, EN, sv_w, ↓reduceIte, reduceCtorEq, Nat.reduceEqDiff, Nat.reduceAdd, Nat.reduceLeDiff, Nat.reduceLT, wr_cs, e6, wrap64 (x := (i : Int) + 1) (by omega) (by omega), hc17, hc27, hc30, hg44, hg53]
              refine hK _ _ ?_
              clear hK K
              refine wpT_keep0 ?_
              refine IH (i + 1) _ _ (by omega) ⟨⟨_, rfl⟩, by simp only [↓SP, SX, SW, TY, EN, sv_w, ↓reduceIte, reduceCtorEq, Nat.reduceEqDiff, Nat.reduceAdd, Nat.reduceLeDiff, Nat.reduceLT, wr_cs, e0], by simp only [↓SP, SX, SW, TY, EN, sv_w, ↓reduceIte, reduceCtorEq, Nat.reduceEqDiff, Nat.reduceAdd, Nat.reduceLeDiff, Nat.reduceLT, wr_cs, e1], by simp only [↓SP, SX, SW, TY, EN, sv_w, ↓reduceIte, reduceCtorEq, Nat.reduceEqDiff, Nat.reduceAdd, Nat.reduceLeDiff, Nat.reduceLT, wr_cs, Int.natCast_add, Int.cast_ofNat_Int], by omega, hx', hf'⟩
          · skip
            simp only [Bool.not_true, Bool.not_false] at hg44
            have p44 := hg44
            try simp only [decide_eq_true_eq, decide_eq_false_iff_not, beq_iff_eq, bne_iff_ne, beq_eq_false_iff_ne, bne_eq_false_iff_eq, Bool.not_eq_true', Bool.not_eq_false'] at p44
            simp only [↓SP, SX, SW, TY, EN, sv_w, ↓reduceIte, reduceCtorEq, Nat.reduceEqDiff, Nat.reduceAdd, Nat.reduceLeDiff, Nat.reduceLT, wr_cs, e0, e6, hg, Wr.av, wrap64 (x := xs[i - 1].start + (xs[i - 1].data.length : Int)) (by omega) (by omega), wrap64 (x := xs[i - 1].start + (xs[i - 1].data.length : Int) + 1) (by omega) (by omega), hc17, hc27, hc30, hg44]
            refine hK _ _ ?_
            clear hK K
            refine wpT_ifT (by simp only [↓SP, SX, SW, TY, EN, sv_w, ↓reduceIte, reduceCtorEq, Nat.reduceEqDiff, Nat.reduceAdd, Nat.reduceLeDiff, Nat.reduceLT, wr_cs, hc17, hc27, hc30, hg44]) ?_
            have hb : badO (some xs[i - 1]) xs[i] = true := decide_eq_true (by omega)
            refine wpT_seq ?_
            refine wpT_region (by kernel_rfl) (fun K hK => ?_)
            simp only [↓SP, SX, SW, TY, EN, sv_w, ↓reduceIte, reduceCtorEq, Nat.reduceEqDiff, Nat.reduceAdd, Nat.reduceLeDiff, Nat.reduceLT, wr_cs, hc17, hc27, hc30, hg44]
            refine hK _ _ ?_
            clear hK K
            refine wpT_ret ⟨.inr rfl, ?_⟩
            show optK (resA _ _ _ [.tmp 4]) _
            simp only [SR, Option.map_some, Option.bind_some, ↓SP, SX, SW, TY, EN, sv_w, ↓reduceIte, reduceCtorEq, Nat.reduceEqDiff, Nat.reduceAdd, Nat.reduceLeDiff, Nat.reduceLT, wr_cs, hc17, hc27, hc30, hg44]
            refine Lend.eq ?_
            first
              | rw [hx]
              | rw [← hx, if_pos hb]
              | rw [← hx]
    · skip
      have p17 := hc17
      try simp only [decide_eq_true_eq, decide_eq_false_iff_not, beq_iff_eq, bne_iff_ne, beq_eq_false_iff_ne, bne_eq_false_iff_eq, Bool.not_eq_true', Bool.not_eq_false'] at p17
      rw [List.drop_eq_nil_of_le (by omega), wsE] at hx
      refine wpT_exit rfl ?_
      refine wpT_seq ?_
      refine wpT_region (by kernel_rfl) (fun K hK => ?_)
      simp only [↓SP, SX, SW, TY, EN, sv_w, ↓reduceIte, reduceCtorEq, Nat.reduceEqDiff, Nat.reduceAdd, Nat.reduceLeDiff, Nat.reduceLT, wr_cs, hc17]
      refine hK _ _ ?_
      clear hK K
      refine wpT_ret ⟨.inr rfl, ?_⟩
      show optK (resA _ _ _ [.tmp 4]) _
      simp only [SR, Option.map_some, Option.bind_some, ↓SP, SX, SW, TY, EN, sv_w, ↓reduceIte, reduceCtorEq, Nat.reduceEqDiff, Nat.reduceAdd, Nat.reduceLeDiff, Nat.reduceLT, wr_cs, hc17]
      refine Lend.eq ?_
      first
        | rw [hx]
        | rw [← hx, if_pos hb]
        | rw [← hx]
end Go.Proofs.YtlmjpgmaefokdaaGreat
end
