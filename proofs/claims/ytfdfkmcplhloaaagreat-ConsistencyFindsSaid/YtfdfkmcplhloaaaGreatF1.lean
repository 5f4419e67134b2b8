/- Facts of the types of the program, as the abstract logic asks for them. Printed by an own program; each is checked by the kernel.
  The values of the program's types, as the abstract logic writes them: numbers, sectors, writes, histories, images.
  What is read as a sector, a write, an event, a history, an image.
  Walks: equality of lists of numbers and sectors.
  Walks: equality of lists of writes.
  Walks: the reference's checks of sizes and writes.
  Walks: the program's checks of sizes: searches with functions.
  Walks: images of zero sectors; what fits an image.
  Walks: what fits an image.
  What a history says: its error, its timeline. -/
import Derived.Test.YtfdfkmcplhloaaaGreatB3
import Derived.Test.YtfdfkmcplhloaaaGreatProg
section
set_option linter.unusedSimpArgs false
set_option linter.unusedVariables false
namespace Go.Proofs.YtfdfkmcplhloaaaGreat
open Go.Proofs
theorem agg3 : aggT Tryz.prog 3 = some false := by kernel_rfl
theorem cel3 : Tryz.prog.cellsOf 3 = 1 := by kernel_rfl
theorem pa3 : ∀ (cs : List AV) (o : Nat), partA Tryz.prog 3 cs o = cs[o]? := paT agg3
theorem lv3 : ∀ (v : AV) (o : Nat), loadV Tryz.prog 3 v o = v.cells[o]? := lvT agg3
theorem st3 : ∀ (id tot i off : Nat) (x : AV) (g : Nat → Option Ob), opStore Tryz.prog 3 (.ptr id tot i off) x g = stO 1 id tot i off x (g id) := stT cel3 rfl
theorem zr3 : zeroA Tryz.prog 3 = some (.int .i64 0) := by kernel_rfl
theorem by3 : Tryz.prog.bytesOf 3 = 8 := by kernel_rfl
theorem zo3 : zeroOk Tryz.prog 3 = true := by kernel_rfl
theorem agg4 : aggT Tryz.prog 4 = some false := by kernel_rfl
theorem cel4 : Tryz.prog.cellsOf 4 = 1 := by kernel_rfl
theorem pa4 : ∀ (cs : List AV) (o : Nat), partA Tryz.prog 4 cs o = cs[o]? := paT agg4
theorem lv4 : ∀ (v : AV) (o : Nat), loadV Tryz.prog 4 v o = v.cells[o]? := lvT agg4
theorem st4 : ∀ (id tot i off : Nat) (x : AV) (g : Nat → Option Ob), opStore Tryz.prog 4 (.ptr id tot i off) x g = stO 1 id tot i off x (g id) := stT cel4 rfl
theorem zr4 : zeroA Tryz.prog 4 = some (.bool false) := by kernel_rfl
theorem by4 : Tryz.prog.bytesOf 4 = 1 := by kernel_rfl
theorem zo4 : zeroOk Tryz.prog 4 = true := by kernel_rfl
theorem ib4 : isBoolT Tryz.prog 4 = true := by kernel_rfl
theorem agg5 : aggT Tryz.prog 5 = some false := by kernel_rfl
theorem cel5 : Tryz.prog.cellsOf 5 = 1 := by kernel_rfl
theorem pa5 : ∀ (cs : List AV) (o : Nat), partA Tryz.prog 5 cs o = cs[o]? := paT agg5
theorem lv5 : ∀ (v : AV) (o : Nat), loadV Tryz.prog 5 v o = v.cells[o]? := lvT agg5
theorem st5 : ∀ (id tot i off : Nat) (x : AV) (g : Nat → Option Ob), opStore Tryz.prog 5 (.ptr id tot i off) x g = stO 1 id tot i off x (g id) := stT cel5 rfl
theorem zr5 : zeroA Tryz.prog 5 = some (.int .u8 0) := by kernel_rfl
theorem by5 : Tryz.prog.bytesOf 5 = 1 := by kernel_rfl
theorem zo5 : zeroOk Tryz.prog 5 = true := by kernel_rfl
theorem agg22 : aggT Tryz.prog 22 = some false := by kernel_rfl
theorem cel22 : Tryz.prog.cellsOf 22 = 1 := by kernel_rfl
theorem pa22 : ∀ (cs : List AV) (o : Nat), partA Tryz.prog 22 cs o = cs[o]? := paT agg22
theorem lv22 : ∀ (v : AV) (o : Nat), loadV Tryz.prog 22 v o = v.cells[o]? := lvT agg22
theorem st22 : ∀ (id tot i off : Nat) (x : AV) (g : Nat → Option Ob), opStore Tryz.prog 22 (.ptr id tot i off) x g = stO 1 id tot i off x (g id) := stT cel22 rfl
theorem zr22 : zeroA Tryz.prog 22 = some .nil0 := by kernel_rfl
theorem by22 : Tryz.prog.bytesOf 22 = 24 := by kernel_rfl
theorem zo22 : zeroOk Tryz.prog 22 = true := by kernel_rfl
theorem agg23 : aggT Tryz.prog 23 = some false := by kernel_rfl
theorem cel23 : Tryz.prog.cellsOf 23 = 1 := by kernel_rfl
theorem pa23 : ∀ (cs : List AV) (o : Nat), partA Tryz.prog 23 cs o = cs[o]? := paT agg23
theorem lv23 : ∀ (v : AV) (o : Nat), loadV Tryz.prog 23 v o = v.cells[o]? := lvT agg23
theorem st23 : ∀ (id tot i off : Nat) (x : AV) (g : Nat → Option Ob), opStore Tryz.prog 23 (.ptr id tot i off) x g = stO 1 id tot i off x (g id) := stT cel23 rfl
theorem zr23 : zeroA Tryz.prog 23 = some .nil0 := by kernel_rfl
theorem agg24 : aggT Tryz.prog 24 = some false := by kernel_rfl
theorem cel24 : Tryz.prog.cellsOf 24 = 1 := by kernel_rfl
theorem pa24 : ∀ (cs : List AV) (o : Nat), partA Tryz.prog 24 cs o = cs[o]? := paT agg24
theorem lv24 : ∀ (v : AV) (o : Nat), loadV Tryz.prog 24 v o = v.cells[o]? := lvT agg24
theorem st24 : ∀ (id tot i off : Nat) (x : AV) (g : Nat → Option Ob), opStore Tryz.prog 24 (.ptr id tot i off) x g = stO 1 id tot i off x (g id) := stT cel24 rfl
theorem zr24 : zeroA Tryz.prog 24 = some .nil0 := by kernel_rfl
theorem agg26 : aggT Tryz.prog 26 = some true := by kernel_rfl
theorem cel26 : Tryz.prog.cellsOf 26 = 3 := by kernel_rfl
theorem pa26 : ∀ (cs : List AV) (o : Nat), partA Tryz.prog 26 cs o = if o + 3 ≤ cs.length then some (.agg ((cs.drop o).take 3)) else none := paT' agg26 cel26
theorem lv26 : ∀ (xs : List AV), loadV Tryz.prog 26 (.agg xs) 0 = if xs.length = 3 then some (.agg xs) else if 0 + 3 ≤ xs.length then some (.agg ((xs.drop 0).take 3)) else none := lvT' agg26 cel26
theorem st26 : ∀ (id tot i off : Nat) (x : AV) (g : Nat → Option Ob), opStore Tryz.prog 26 (.ptr id tot i off) x g = stO 3 id tot i off x (g id) := stT cel26 rfl
theorem zr26 : zeroA Tryz.prog 26 = some (.agg [.nil0, .nil0, .nil0]) := by kernel_rfl
theorem agg27 : aggT Tryz.prog 27 = some false := by kernel_rfl
theorem cel27 : Tryz.prog.cellsOf 27 = 1 := by kernel_rfl
theorem pa27 : ∀ (cs : List AV) (o : Nat), partA Tryz.prog 27 cs o = cs[o]? := paT agg27
theorem lv27 : ∀ (v : AV) (o : Nat), loadV Tryz.prog 27 v o = v.cells[o]? := lvT agg27
theorem st27 : ∀ (id tot i off : Nat) (x : AV) (g : Nat → Option Ob), opStore Tryz.prog 27 (.ptr id tot i off) x g = stO 1 id tot i off x (g id) := stT cel27 rfl
theorem zr27 : zeroA Tryz.prog 27 = some .nil0 := by kernel_rfl
theorem agg28 : aggT Tryz.prog 28 = some false := by kernel_rfl
theorem cel28 : Tryz.prog.cellsOf 28 = 1 := by kernel_rfl
theorem pa28 : ∀ (cs : List AV) (o : Nat), partA Tryz.prog 28 cs o = cs[o]? := paT agg28
theorem lv28 : ∀ (v : AV) (o : Nat), loadV Tryz.prog 28 v o = v.cells[o]? := lvT agg28
theorem st28 : ∀ (id tot i off : Nat) (x : AV) (g : Nat → Option Ob), opStore Tryz.prog 28 (.ptr id tot i off) x g = stO 1 id tot i off x (g id) := stT cel28 rfl
theorem zr28 : zeroA Tryz.prog 28 = some .nil0 := by kernel_rfl
theorem by28 : Tryz.prog.bytesOf 28 = 24 := by kernel_rfl
theorem zo28 : zeroOk Tryz.prog 28 = true := by kernel_rfl
theorem agg31 : aggT Tryz.prog 31 = some false := by kernel_rfl
theorem cel31 : Tryz.prog.cellsOf 31 = 1 := by kernel_rfl
theorem pa31 : ∀ (cs : List AV) (o : Nat), partA Tryz.prog 31 cs o = cs[o]? := paT agg31
theorem lv31 : ∀ (v : AV) (o : Nat), loadV Tryz.prog 31 v o = v.cells[o]? := lvT agg31
theorem st31 : ∀ (id tot i off : Nat) (x : AV) (g : Nat → Option Ob), opStore Tryz.prog 31 (.ptr id tot i off) x g = stO 1 id tot i off x (g id) := stT cel31 rfl
theorem zr31 : zeroA Tryz.prog 31 = some (.int .i64 0) := by kernel_rfl
theorem agg41 : aggT Tryz.prog 41 = some false := by kernel_rfl
theorem cel41 : Tryz.prog.cellsOf 41 = 1 := by kernel_rfl
theorem pa41 : ∀ (cs : List AV) (o : Nat), partA Tryz.prog 41 cs o = cs[o]? := paT agg41
theorem lv41 : ∀ (v : AV) (o : Nat), loadV Tryz.prog 41 v o = v.cells[o]? := lvT agg41
theorem st41 : ∀ (id tot i off : Nat) (x : AV) (g : Nat → Option Ob), opStore Tryz.prog 41 (.ptr id tot i off) x g = stO 1 id tot i off x (g id) := stT cel41 rfl
theorem zr41 : zeroA Tryz.prog 41 = some .nil0 := by kernel_rfl
theorem agg43 : aggT Tryz.prog 43 = some false := by kernel_rfl
theorem cel43 : Tryz.prog.cellsOf 43 = 1 := by kernel_rfl
theorem pa43 : ∀ (cs : List AV) (o : Nat), partA Tryz.prog 43 cs o = cs[o]? := paT agg43
theorem lv43 : ∀ (v : AV) (o : Nat), loadV Tryz.prog 43 v o = v.cells[o]? := lvT agg43
theorem st43 : ∀ (id tot i off : Nat) (x : AV) (g : Nat → Option Ob), opStore Tryz.prog 43 (.ptr id tot i off) x g = stO 1 id tot i off x (g id) := stT cel43 rfl
theorem zr43 : zeroA Tryz.prog 43 = some .nil0 := by kernel_rfl
theorem by43 : Tryz.prog.bytesOf 43 = 24 := by kernel_rfl
theorem zo43 : zeroOk Tryz.prog 43 = true := by kernel_rfl
theorem agg45 : aggT Tryz.prog 45 = some true := by kernel_rfl
theorem cel45 : Tryz.prog.cellsOf 45 = 3 := by kernel_rfl
theorem pa45 : ∀ (cs : List AV) (o : Nat), partA Tryz.prog 45 cs o = if o + 3 ≤ cs.length then some (.agg ((cs.drop o).take 3)) else none := paT' agg45 cel45
theorem lv45 : ∀ (xs : List AV), loadV Tryz.prog 45 (.agg xs) 0 = if xs.length = 3 then some (.agg xs) else if 0 + 3 ≤ xs.length then some (.agg ((xs.drop 0).take 3)) else none := lvT' agg45 cel45
theorem st45 : ∀ (id tot i off : Nat) (x : AV) (g : Nat → Option Ob), opStore Tryz.prog 45 (.ptr id tot i off) x g = stO 3 id tot i off x (g id) := stT cel45 rfl
theorem zr45 : zeroA Tryz.prog 45 = some (.agg [(.int .i64 0), (.int .i64 0), .nil0]) := by kernel_rfl
theorem by45 : Tryz.prog.bytesOf 45 = 40 := by kernel_rfl
theorem zo45 : zeroOk Tryz.prog 45 = true := by kernel_rfl
theorem agg49 : aggT Tryz.prog 49 = some true := by kernel_rfl
theorem cel49 : Tryz.prog.cellsOf 49 = 8 := by kernel_rfl
theorem pa49 : ∀ (cs : List AV) (o : Nat), partA Tryz.prog 49 cs o = if o + 8 ≤ cs.length then some (.agg ((cs.drop o).take 8)) else none := paT' agg49 cel49
theorem lv49 : ∀ (xs : List AV), loadV Tryz.prog 49 (.agg xs) 0 = if xs.length = 8 then some (.agg xs) else if 0 + 8 ≤ xs.length then some (.agg ((xs.drop 0).take 8)) else none := lvT' agg49 cel49
theorem st49 : ∀ (id tot i off : Nat) (x : AV) (g : Nat → Option Ob), opStore Tryz.prog 49 (.ptr id tot i off) x g = stO 8 id tot i off x (g id) := stT cel49 rfl
theorem zr49 : zeroA Tryz.prog 49 = some (.agg [(.int .u8 0), (.int .u8 0), (.int .u8 0), (.int .u8 0), (.int .u8 0), (.int .u8 0), (.int .u8 0), (.int .u8 0)]) := by kernel_rfl
theorem by49 : Tryz.prog.bytesOf 49 = 8 := by kernel_rfl
theorem zo49 : zeroOk Tryz.prog 49 = true := by kernel_rfl
theorem agg52 : aggT Tryz.prog 52 = some false := by kernel_rfl
theorem cel52 : Tryz.prog.cellsOf 52 = 1 := by kernel_rfl
theorem pa52 : ∀ (cs : List AV) (o : Nat), partA Tryz.prog 52 cs o = cs[o]? := paT agg52
theorem lv52 : ∀ (v : AV) (o : Nat), loadV Tryz.prog 52 v o = v.cells[o]? := lvT agg52
theorem st52 : ∀ (id tot i off : Nat) (x : AV) (g : Nat → Option Ob), opStore Tryz.prog 52 (.ptr id tot i off) x g = stO 1 id tot i off x (g id) := stT cel52 rfl
theorem zr52 : zeroA Tryz.prog 52 = some .nilp := by kernel_rfl
theorem agg60 : aggT Tryz.prog 60 = some false := by kernel_rfl
theorem cel60 : Tryz.prog.cellsOf 60 = 1 := by kernel_rfl
theorem pa60 : ∀ (cs : List AV) (o : Nat), partA Tryz.prog 60 cs o = cs[o]? := paT agg60
theorem lv60 : ∀ (v : AV) (o : Nat), loadV Tryz.prog 60 v o = v.cells[o]? := lvT agg60
theorem st60 : ∀ (id tot i off : Nat) (x : AV) (g : Nat → Option Ob), opStore Tryz.prog 60 (.ptr id tot i off) x g = stO 1 id tot i off x (g id) := stT cel60 rfl
theorem zr60 : zeroA Tryz.prog 60 = some .nilf := by kernel_rfl
theorem agg66 : aggT Tryz.prog 66 = some false := by kernel_rfl
theorem cel66 : Tryz.prog.cellsOf 66 = 1 := by kernel_rfl
theorem pa66 : ∀ (cs : List AV) (o : Nat), partA Tryz.prog 66 cs o = cs[o]? := paT agg66
theorem lv66 : ∀ (v : AV) (o : Nat), loadV Tryz.prog 66 v o = v.cells[o]? := lvT agg66
theorem st66 : ∀ (id tot i off : Nat) (x : AV) (g : Nat → Option Ob), opStore Tryz.prog 66 (.ptr id tot i off) x g = stO 1 id tot i off x (g id) := stT cel66 rfl
theorem zr66 : zeroA Tryz.prog 66 = some .nil0 := by kernel_rfl
theorem agg69 : aggT Tryz.prog 69 = some true := by kernel_rfl
theorem cel69 : Tryz.prog.cellsOf 69 = 2 := by kernel_rfl
theorem pa69 : ∀ (cs : List AV) (o : Nat), partA Tryz.prog 69 cs o = if o + 2 ≤ cs.length then some (.agg ((cs.drop o).take 2)) else none := paT' agg69 cel69
theorem lv69 : ∀ (xs : List AV), loadV Tryz.prog 69 (.agg xs) 0 = if xs.length = 2 then some (.agg xs) else if 0 + 2 ≤ xs.length then some (.agg ((xs.drop 0).take 2)) else none := lvT' agg69 cel69
theorem st69 : ∀ (id tot i off : Nat) (x : AV) (g : Nat → Option Ob), opStore Tryz.prog 69 (.ptr id tot i off) x g = stO 2 id tot i off x (g id) := stT cel69 rfl
theorem zr69 : zeroA Tryz.prog 69 = some (.agg [(.int .i64 0), (.int .i64 0)]) := by kernel_rfl
theorem by69 : Tryz.prog.bytesOf 69 = 16 := by kernel_rfl
theorem zo69 : zeroOk Tryz.prog 69 = true := by kernel_rfl
theorem agg72 : aggT Tryz.prog 72 = some false := by kernel_rfl
theorem cel72 : Tryz.prog.cellsOf 72 = 1 := by kernel_rfl
theorem pa72 : ∀ (cs : List AV) (o : Nat), partA Tryz.prog 72 cs o = cs[o]? := paT agg72
theorem lv72 : ∀ (v : AV) (o : Nat), loadV Tryz.prog 72 v o = v.cells[o]? := lvT agg72
theorem st72 : ∀ (id tot i off : Nat) (x : AV) (g : Nat → Option Ob), opStore Tryz.prog 72 (.ptr id tot i off) x g = stO 1 id tot i off x (g id) := stT cel72 rfl
theorem zr72 : zeroA Tryz.prog 72 = some .nilm := by kernel_rfl
theorem agg73 : aggT Tryz.prog 73 = some false := by kernel_rfl
theorem cel73 : Tryz.prog.cellsOf 73 = 1 := by kernel_rfl
theorem pa73 : ∀ (cs : List AV) (o : Nat), partA Tryz.prog 73 cs o = cs[o]? := paT agg73
theorem lv73 : ∀ (v : AV) (o : Nat), loadV Tryz.prog 73 v o = v.cells[o]? := lvT agg73
theorem st73 : ∀ (id tot i off : Nat) (x : AV) (g : Nat → Option Ob), opStore Tryz.prog 73 (.ptr id tot i off) x g = stO 1 id tot i off x (g id) := stT cel73 rfl
theorem zr73 : zeroA Tryz.prog 73 = some .nilm := by kernel_rfl
theorem agg81 : aggT Tryz.prog 81 = some true := by kernel_rfl
theorem cel81 : Tryz.prog.cellsOf 81 = 5 := by kernel_rfl
theorem pa81 : ∀ (cs : List AV) (o : Nat), partA Tryz.prog 81 cs o = if o + 5 ≤ cs.length then some (.agg ((cs.drop o).take 5)) else none := paT' agg81 cel81
theorem lv81 : ∀ (xs : List AV), loadV Tryz.prog 81 (.agg xs) 0 = if xs.length = 5 then some (.agg xs) else if 0 + 5 ≤ xs.length then some (.agg ((xs.drop 0).take 5)) else none := lvT' agg81 cel81
theorem st81 : ∀ (id tot i off : Nat) (x : AV) (g : Nat → Option Ob), opStore Tryz.prog 81 (.ptr id tot i off) x g = stO 5 id tot i off x (g id) := stT cel81 rfl
theorem zr81 : zeroA Tryz.prog 81 = some (.agg [.nil0, .nil0, .nil0, .nil0, .nilm]) := by kernel_rfl
theorem agg82 : aggT Tryz.prog 82 = some false := by kernel_rfl
theorem cel82 : Tryz.prog.cellsOf 82 = 1 := by kernel_rfl
theorem pa82 : ∀ (cs : List AV) (o : Nat), partA Tryz.prog 82 cs o = cs[o]? := paT agg82
theorem lv82 : ∀ (v : AV) (o : Nat), loadV Tryz.prog 82 v o = v.cells[o]? := lvT agg82
theorem st82 : ∀ (id tot i off : Nat) (x : AV) (g : Nat → Option Ob), opStore Tryz.prog 82 (.ptr id tot i off) x g = stO 1 id tot i off x (g id) := stT cel82 rfl
theorem zr82 : zeroA Tryz.prog 82 = some .nilm := by kernel_rfl
theorem agg85 : aggT Tryz.prog 85 = some true := by kernel_rfl
theorem cel85 : Tryz.prog.cellsOf 85 = 2 := by kernel_rfl
theorem pa85 : ∀ (cs : List AV) (o : Nat), partA Tryz.prog 85 cs o = if o + 2 ≤ cs.length then some (.agg ((cs.drop o).take 2)) else none := paT' agg85 cel85
theorem lv85 : ∀ (xs : List AV), loadV Tryz.prog 85 (.agg xs) 0 = if xs.length = 2 then some (.agg xs) else if 0 + 2 ≤ xs.length then some (.agg ((xs.drop 0).take 2)) else none := lvT' agg85 cel85
theorem st85 : ∀ (id tot i off : Nat) (x : AV) (g : Nat → Option Ob), opStore Tryz.prog 85 (.ptr id tot i off) x g = stO 2 id tot i off x (g id) := stT cel85 rfl
theorem zr85 : zeroA Tryz.prog 85 = some (.agg [(.int .i64 0), (.int .i64 0)]) := by kernel_rfl
theorem agg88 : aggT Tryz.prog 88 = some true := by kernel_rfl
theorem cel88 : Tryz.prog.cellsOf 88 = 10 := by kernel_rfl
theorem pa88 : ∀ (cs : List AV) (o : Nat), partA Tryz.prog 88 cs o = if o + 10 ≤ cs.length then some (.agg ((cs.drop o).take 10)) else none := paT' agg88 cel88
theorem lv88 : ∀ (xs : List AV), loadV Tryz.prog 88 (.agg xs) 0 = if xs.length = 10 then some (.agg xs) else if 0 + 10 ≤ xs.length then some (.agg ((xs.drop 0).take 10)) else none := lvT' agg88 cel88
theorem st88 : ∀ (id tot i off : Nat) (x : AV) (g : Nat → Option Ob), opStore Tryz.prog 88 (.ptr id tot i off) x g = stO 10 id tot i off x (g id) := stT cel88 rfl
theorem zr88 : zeroA Tryz.prog 88 = some (.agg [(.int .i64 0), (.int .i64 0), (.int .u8 0), (.int .u8 0), (.int .u8 0), (.int .u8 0), (.int .u8 0), (.int .u8 0), (.int .u8 0), (.int .u8 0)]) := by kernel_rfl
theorem agg96 : aggT Tryz.prog 96 = some false := by kernel_rfl
theorem cel96 : Tryz.prog.cellsOf 96 = 1 := by kernel_rfl
theorem pa96 : ∀ (cs : List AV) (o : Nat), partA Tryz.prog 96 cs o = cs[o]? := paT agg96
theorem lv96 : ∀ (v : AV) (o : Nat), loadV Tryz.prog 96 v o = v.cells[o]? := lvT agg96
theorem st96 : ∀ (id tot i off : Nat) (x : AV) (g : Nat → Option Ob), opStore Tryz.prog 96 (.ptr id tot i off) x g = stO 1 id tot i off x (g id) := stT cel96 rfl
theorem zr96 : zeroA Tryz.prog 96 = some .nil0 := by kernel_rfl
theorem by96 : Tryz.prog.bytesOf 96 = 24 := by kernel_rfl
theorem zo96 : zeroOk Tryz.prog 96 = true := by kernel_rfl
theorem agg100 : aggT Tryz.prog 100 = some false := by kernel_rfl
theorem cel100 : Tryz.prog.cellsOf 100 = 1 := by kernel_rfl
theorem pa100 : ∀ (cs : List AV) (o : Nat), partA Tryz.prog 100 cs o = cs[o]? := paT agg100
theorem lv100 : ∀ (v : AV) (o : Nat), loadV Tryz.prog 100 v o = v.cells[o]? := lvT agg100
theorem st100 : ∀ (id tot i off : Nat) (x : AV) (g : Nat → Option Ob), opStore Tryz.prog 100 (.ptr id tot i off) x g = stO 1 id tot i off x (g id) := stT cel100 rfl
theorem zr100 : zeroA Tryz.prog 100 = some .nilf := by kernel_rfl
theorem agg101 : aggT Tryz.prog 101 = some false := by kernel_rfl
theorem cel101 : Tryz.prog.cellsOf 101 = 1 := by kernel_rfl
theorem pa101 : ∀ (cs : List AV) (o : Nat), partA Tryz.prog 101 cs o = cs[o]? := paT agg101
theorem lv101 : ∀ (v : AV) (o : Nat), loadV Tryz.prog 101 v o = v.cells[o]? := lvT agg101
theorem st101 : ∀ (id tot i off : Nat) (x : AV) (g : Nat → Option Ob), opStore Tryz.prog 101 (.ptr id tot i off) x g = stO 1 id tot i off x (g id) := stT cel101 rfl
theorem zr101 : zeroA Tryz.prog 101 = some .nilp := by kernel_rfl
theorem agg102 : aggT Tryz.prog 102 = some false := by kernel_rfl
theorem cel102 : Tryz.prog.cellsOf 102 = 1 := by kernel_rfl
theorem pa102 : ∀ (cs : List AV) (o : Nat), partA Tryz.prog 102 cs o = cs[o]? := paT agg102
theorem lv102 : ∀ (v : AV) (o : Nat), loadV Tryz.prog 102 v o = v.cells[o]? := lvT agg102
theorem st102 : ∀ (id tot i off : Nat) (x : AV) (g : Nat → Option Ob), opStore Tryz.prog 102 (.ptr id tot i off) x g = stO 1 id tot i off x (g id) := stT cel102 rfl
theorem zr102 : zeroA Tryz.prog 102 = some .nil0 := by kernel_rfl
theorem agg105 : aggT Tryz.prog 105 = some false := by kernel_rfl
theorem cel105 : Tryz.prog.cellsOf 105 = 1 := by kernel_rfl
theorem pa105 : ∀ (cs : List AV) (o : Nat), partA Tryz.prog 105 cs o = cs[o]? := paT agg105
theorem lv105 : ∀ (v : AV) (o : Nat), loadV Tryz.prog 105 v o = v.cells[o]? := lvT agg105
theorem st105 : ∀ (id tot i off : Nat) (x : AV) (g : Nat → Option Ob), opStore Tryz.prog 105 (.ptr id tot i off) x g = stO 1 id tot i off x (g id) := stT cel105 rfl
theorem zr105 : zeroA Tryz.prog 105 = some .nil0 := by kernel_rfl
theorem by105 : Tryz.prog.bytesOf 105 = 24 := by kernel_rfl
theorem zo105 : zeroOk Tryz.prog 105 = true := by kernel_rfl
theorem agg111 : aggT Tryz.prog 111 = some true := by kernel_rfl
theorem cel111 : Tryz.prog.cellsOf 111 = 4 := by kernel_rfl
theorem pa111 : ∀ (cs : List AV) (o : Nat), partA Tryz.prog 111 cs o = if o + 4 ≤ cs.length then some (.agg ((cs.drop o).take 4)) else none := paT' agg111 cel111
theorem lv111 : ∀ (xs : List AV), loadV Tryz.prog 111 (.agg xs) 0 = if xs.length = 4 then some (.agg xs) else if 0 + 4 ≤ xs.length then some (.agg ((xs.drop 0).take 4)) else none := lvT' agg111 cel111
theorem st111 : ∀ (id tot i off : Nat) (x : AV) (g : Nat → Option Ob), opStore Tryz.prog 111 (.ptr id tot i off) x g = stO 4 id tot i off x (g id) := stT cel111 rfl
theorem zr111 : zeroA Tryz.prog 111 = some (.agg [(.int .i64 0), (.int .i64 0), .nil0, .nil0]) := by kernel_rfl
theorem agg117 : aggT Tryz.prog 117 = some false := by kernel_rfl
theorem cel117 : Tryz.prog.cellsOf 117 = 1 := by kernel_rfl
theorem pa117 : ∀ (cs : List AV) (o : Nat), partA Tryz.prog 117 cs o = cs[o]? := paT agg117
theorem lv117 : ∀ (v : AV) (o : Nat), loadV Tryz.prog 117 v o = v.cells[o]? := lvT agg117
theorem st117 : ∀ (id tot i off : Nat) (x : AV) (g : Nat → Option Ob), opStore Tryz.prog 117 (.ptr id tot i off) x g = stO 1 id tot i off x (g id) := stT cel117 rfl
theorem zr117 : zeroA Tryz.prog 117 = some .nil0 := by kernel_rfl
theorem agg121 : aggT Tryz.prog 121 = some true := by kernel_rfl
theorem cel121 : Tryz.prog.cellsOf 121 = 2 := by kernel_rfl
theorem pa121 : ∀ (cs : List AV) (o : Nat), partA Tryz.prog 121 cs o = if o + 2 ≤ cs.length then some (.agg ((cs.drop o).take 2)) else none := paT' agg121 cel121
theorem lv121 : ∀ (xs : List AV), loadV Tryz.prog 121 (.agg xs) 0 = if xs.length = 2 then some (.agg xs) else if 0 + 2 ≤ xs.length then some (.agg ((xs.drop 0).take 2)) else none := lvT' agg121 cel121
theorem st121 : ∀ (id tot i off : Nat) (x : AV) (g : Nat → Option Ob), opStore Tryz.prog 121 (.ptr id tot i off) x g = stO 2 id tot i off x (g id) := stT cel121 rfl
theorem zr121 : zeroA Tryz.prog 121 = some (.agg [.nil0, .nil0]) := by kernel_rfl
theorem agg123 : aggT Tryz.prog 123 = some true := by kernel_rfl
theorem cel123 : Tryz.prog.cellsOf 123 = 5 := by kernel_rfl
theorem pa123 : ∀ (cs : List AV) (o : Nat), partA Tryz.prog 123 cs o = if o + 5 ≤ cs.length then some (.agg ((cs.drop o).take 5)) else none := paT' agg123 cel123
theorem lv123 : ∀ (xs : List AV), loadV Tryz.prog 123 (.agg xs) 0 = if xs.length = 5 then some (.agg xs) else if 0 + 5 ≤ xs.length then some (.agg ((xs.drop 0).take 5)) else none := lvT' agg123 cel123
theorem st123 : ∀ (id tot i off : Nat) (x : AV) (g : Nat → Option Ob), opStore Tryz.prog 123 (.ptr id tot i off) x g = stO 5 id tot i off x (g id) := stT cel123 rfl
theorem zr123 : zeroA Tryz.prog 123 = some (.agg [.nil0, .nil0, .nil0, .nil0, .nil0]) := by kernel_rfl
theorem agg140 : aggT Tryz.prog 140 = some false := by kernel_rfl
theorem cel140 : Tryz.prog.cellsOf 140 = 1 := by kernel_rfl
theorem pa140 : ∀ (cs : List AV) (o : Nat), partA Tryz.prog 140 cs o = cs[o]? := paT agg140
theorem lv140 : ∀ (v : AV) (o : Nat), loadV Tryz.prog 140 v o = v.cells[o]? := lvT agg140
theorem st140 : ∀ (id tot i off : Nat) (x : AV) (g : Nat → Option Ob), opStore Tryz.prog 140 (.ptr id tot i off) x g = stO 1 id tot i off x (g id) := stT cel140 rfl
theorem zr140 : zeroA Tryz.prog 140 = some .nil0 := by kernel_rfl
theorem agg165 : aggT Tryz.prog 165 = some false := by kernel_rfl
theorem cel165 : Tryz.prog.cellsOf 165 = 1 := by kernel_rfl
theorem pa165 : ∀ (cs : List AV) (o : Nat), partA Tryz.prog 165 cs o = cs[o]? := paT agg165
theorem lv165 : ∀ (v : AV) (o : Nat), loadV Tryz.prog 165 v o = v.cells[o]? := lvT agg165
theorem st165 : ∀ (id tot i off : Nat) (x : AV) (g : Nat → Option Ob), opStore Tryz.prog 165 (.ptr id tot i off) x g = stO 1 id tot i off x (g id) := stT cel165 rfl
theorem zr165 : zeroA Tryz.prog 165 = some (.int .u64 0) := by kernel_rfl
theorem agg171 : aggT Tryz.prog 171 = some false := by kernel_rfl
theorem cel171 : Tryz.prog.cellsOf 171 = 1 := by kernel_rfl
theorem pa171 : ∀ (cs : List AV) (o : Nat), partA Tryz.prog 171 cs o = cs[o]? := paT agg171
theorem lv171 : ∀ (v : AV) (o : Nat), loadV Tryz.prog 171 v o = v.cells[o]? := lvT agg171
theorem st171 : ∀ (id tot i off : Nat) (x : AV) (g : Nat → Option Ob), opStore Tryz.prog 171 (.ptr id tot i off) x g = stO 1 id tot i off x (g id) := stT cel171 rfl
theorem zr171 : zeroA Tryz.prog 171 = some (.int .u64 0) := by kernel_rfl
theorem sle22 : sliceElem Tryz.prog 22 = some 3 := by kernel_rfl
theorem hi22 : hasInfo Tryz.prog 22 = true := by kernel_rfl
theorem ln22 : ∀ (xs : List AV) (g : Nat → Option Ob), opLen Tryz.prog 22 (.lst xs) g = some (.int .i64 xs.length) := lenT_lst sle22
theorem lz22 : ∀ (g : Nat → Option Ob), opLen Tryz.prog 22 .nil0 g = some (.int .i64 0) := lenT_nil0 sle22
theorem ls22 : ∀ (id tot off len : Nat) (g : Nat → Option Ob), opLen Tryz.prog 22 (.sl id tot off len) g = lenO tot len (g id) := lenT_sl sle22
theorem ia22 : ∀ (xs : List AV) (k : IntKind) (i : Nat) (g : Nat → Option Ob), opIndexAddr Tryz.prog 22 (.lst xs) (.int k i) g = idxO 1 xs[i]? := iaT_lst sle22 cel3
theorem iz22 : ∀ (xs : List AV) (k : IntKind) (g : Nat → Option Ob), opIndexAddr Tryz.prog 22 (.lst xs) (.int k 0) g = idxO 1 xs[0]? := iaT_lst0 sle22 cel3
theorem is22 : ∀ (id tot off len : Nat) (k : IntKind) (n : Int) (g : Nat → Option Ob), opIndexAddr Tryz.prog 22 (.sl id tot off len) (.int k n) g = iaO 1 id tot off len n (g id) := iaT_sl sle22 cel3
theorem ap22 : ∀ (s x : AV) (g : Nat → Option Ob) (nid : Nat), opAppend Tryz.prog 22 s x g nid = apO 3 1 8 nid s g (rdS g x) := apT sle22 zo3 cel3 by3
theorem bz22 : ∀ (nid : Nat), opBuildSlice Tryz.prog 22 0 [] nid = some (.nil0, .non) := bsT0 sle22 zo3
theorem bs22 : ∀ (parts : List (Nat × AV)) (nid : Nat), opBuildSlice Tryz.prog 22 1 parts nid = bsO 3 1 (.int .i64 0) 1 parts nid := bsT sle22 zo3 cel3 zr3 rfl rfl rfl
theorem ms22 : ∀ (k k' : IntKind) (n m : Int) (nid : Nat), opMakeSlice Tryz.prog 22 (.int k n) (.int k' m) nid = msO 3 1 8 (.int .i64 0) n m nid := msT sle22 zo3 cel3 by3 zr3 rfl rfl
theorem sle23 : sliceElem Tryz.prog 23 = some 45 := by kernel_rfl
theorem hi23 : hasInfo Tryz.prog 23 = true := by kernel_rfl
theorem ln23 : ∀ (xs : List AV) (g : Nat → Option Ob), opLen Tryz.prog 23 (.lst xs) g = some (.int .i64 xs.length) := lenT_lst sle23
theorem lz23 : ∀ (g : Nat → Option Ob), opLen Tryz.prog 23 .nil0 g = some (.int .i64 0) := lenT_nil0 sle23
theorem ls23 : ∀ (id tot off len : Nat) (g : Nat → Option Ob), opLen Tryz.prog 23 (.sl id tot off len) g = lenO tot len (g id) := lenT_sl sle23
theorem ia23 : ∀ (xs : List AV) (k : IntKind) (i : Nat) (g : Nat → Option Ob), opIndexAddr Tryz.prog 23 (.lst xs) (.int k i) g = idxO 3 xs[i]? := iaT_lst sle23 cel45
theorem iz23 : ∀ (xs : List AV) (k : IntKind) (g : Nat → Option Ob), opIndexAddr Tryz.prog 23 (.lst xs) (.int k 0) g = idxO 3 xs[0]? := iaT_lst0 sle23 cel45
theorem is23 : ∀ (id tot off len : Nat) (k : IntKind) (n : Int) (g : Nat → Option Ob), opIndexAddr Tryz.prog 23 (.sl id tot off len) (.int k n) g = iaO 3 id tot off len n (g id) := iaT_sl sle23 cel45
theorem ap23 : ∀ (s x : AV) (g : Nat → Option Ob) (nid : Nat), opAppend Tryz.prog 23 s x g nid = apO 45 3 40 nid s g (rdS g x) := apT sle23 zo45 cel45 by45
theorem bz23 : ∀ (nid : Nat), opBuildSlice Tryz.prog 23 0 [] nid = some (.nil0, .non) := bsT0 sle23 zo45
theorem bs23 : ∀ (parts : List (Nat × AV)) (nid : Nat), opBuildSlice Tryz.prog 23 1 parts nid = bsO 45 3 (.agg [(.int .i64 0), (.int .i64 0), .nil0]) 1 parts nid := bsT sle23 zo45 cel45 zr45 rfl rfl rfl
theorem ms23 : ∀ (k k' : IntKind) (n m : Int) (nid : Nat), opMakeSlice Tryz.prog 23 (.int k n) (.int k' m) nid = msO 45 3 40 (.agg [(.int .i64 0), (.int .i64 0), .nil0]) n m nid := msT sle23 zo45 cel45 by45 zr45 rfl rfl
theorem sle24 : sliceElem Tryz.prog 24 = some 69 := by kernel_rfl
theorem hi24 : hasInfo Tryz.prog 24 = true := by kernel_rfl
theorem ln24 : ∀ (xs : List AV) (g : Nat → Option Ob), opLen Tryz.prog 24 (.lst xs) g = some (.int .i64 xs.length) := lenT_lst sle24
theorem lz24 : ∀ (g : Nat → Option Ob), opLen Tryz.prog 24 .nil0 g = some (.int .i64 0) := lenT_nil0 sle24
theorem ls24 : ∀ (id tot off len : Nat) (g : Nat → Option Ob), opLen Tryz.prog 24 (.sl id tot off len) g = lenO tot len (g id) := lenT_sl sle24
theorem ia24 : ∀ (xs : List AV) (k : IntKind) (i : Nat) (g : Nat → Option Ob), opIndexAddr Tryz.prog 24 (.lst xs) (.int k i) g = idxO 2 xs[i]? := iaT_lst sle24 cel69
theorem iz24 : ∀ (xs : List AV) (k : IntKind) (g : Nat → Option Ob), opIndexAddr Tryz.prog 24 (.lst xs) (.int k 0) g = idxO 2 xs[0]? := iaT_lst0 sle24 cel69
theorem is24 : ∀ (id tot off len : Nat) (k : IntKind) (n : Int) (g : Nat → Option Ob), opIndexAddr Tryz.prog 24 (.sl id tot off len) (.int k n) g = iaO 2 id tot off len n (g id) := iaT_sl sle24 cel69
theorem ap24 : ∀ (s x : AV) (g : Nat → Option Ob) (nid : Nat), opAppend Tryz.prog 24 s x g nid = apO 69 2 16 nid s g (rdS g x) := apT sle24 zo69 cel69 by69
theorem bz24 : ∀ (nid : Nat), opBuildSlice Tryz.prog 24 0 [] nid = some (.nil0, .non) := bsT0 sle24 zo69
theorem bs24 : ∀ (parts : List (Nat × AV)) (nid : Nat), opBuildSlice Tryz.prog 24 1 parts nid = bsO 69 2 (.agg [(.int .i64 0), (.int .i64 0)]) 1 parts nid := bsT sle24 zo69 cel69 zr69 rfl rfl rfl
theorem ms24 : ∀ (k k' : IntKind) (n m : Int) (nid : Nat), opMakeSlice Tryz.prog 24 (.int k n) (.int k' m) nid = msO 69 2 16 (.agg [(.int .i64 0), (.int .i64 0)]) n m nid := msT sle24 zo69 cel69 by69 zr69 rfl rfl
theorem fo26x0 : fieldTO Tryz.prog 26 0 = some (22, 0) := by kernel_rfl
theorem fp26x0 : ∀ (id tot i off : Nat), opFieldAddr Tryz.prog 26 (.ptr id tot i off) 0 = some (.ptr id tot i (off + 0)) := fpT fo26x0 (by kernel_rfl)
theorem fc26x0 : ∀ (v : AV), opFieldAddr Tryz.prog 26 (.cptr v) 0 = fcO false (partA Tryz.prog 22 v.cells 0) := fcT fo26x0 (by kernel_rfl) (by kernel_rfl)
theorem fg26x0 : ∀ (xs : List AV), opField Tryz.prog 26 (.agg xs) 0 = partA Tryz.prog 22 xs 0 := fgT fo26x0
theorem fo26x1 : fieldTO Tryz.prog 26 1 = some (23, 1) := by kernel_rfl
theorem fp26x1 : ∀ (id tot i off : Nat), opFieldAddr Tryz.prog 26 (.ptr id tot i off) 1 = some (.ptr id tot i (off + 1)) := fpT fo26x1 (by kernel_rfl)
theorem fc26x1 : ∀ (v : AV), opFieldAddr Tryz.prog 26 (.cptr v) 1 = fcO false (partA Tryz.prog 23 v.cells 1) := fcT fo26x1 (by kernel_rfl) (by kernel_rfl)
theorem fg26x1 : ∀ (xs : List AV), opField Tryz.prog 26 (.agg xs) 1 = partA Tryz.prog 23 xs 1 := fgT fo26x1
theorem fo26x2 : fieldTO Tryz.prog 26 2 = some (24, 2) := by kernel_rfl
theorem fp26x2 : ∀ (id tot i off : Nat), opFieldAddr Tryz.prog 26 (.ptr id tot i off) 2 = some (.ptr id tot i (off + 2)) := fpT fo26x2 (by kernel_rfl)
theorem fc26x2 : ∀ (v : AV), opFieldAddr Tryz.prog 26 (.cptr v) 2 = fcO false (partA Tryz.prog 24 v.cells 2) := fcT fo26x2 (by kernel_rfl) (by kernel_rfl)
theorem fg26x2 : ∀ (xs : List AV), opField Tryz.prog 26 (.agg xs) 2 = partA Tryz.prog 24 xs 2 := fgT fo26x2
theorem bd26 : ∀ parts : List (Nat × AV), opBuild Tryz.prog 26 parts = bdO [(0, 1), (1, 1), (2, 1)] [.nil0, .nil0, .nil0] parts := bdT (by kernel_rfl) zr26
theorem sle27 : sliceElem Tryz.prog 27 = some 43 := by kernel_rfl
theorem hi27 : hasInfo Tryz.prog 27 = true := by kernel_rfl
theorem ln27 : ∀ (xs : List AV) (g : Nat → Option Ob), opLen Tryz.prog 27 (.lst xs) g = some (.int .i64 xs.length) := lenT_lst sle27
theorem lz27 : ∀ (g : Nat → Option Ob), opLen Tryz.prog 27 .nil0 g = some (.int .i64 0) := lenT_nil0 sle27
theorem ls27 : ∀ (id tot off len : Nat) (g : Nat → Option Ob), opLen Tryz.prog 27 (.sl id tot off len) g = lenO tot len (g id) := lenT_sl sle27
theorem ia27 : ∀ (xs : List AV) (k : IntKind) (i : Nat) (g : Nat → Option Ob), opIndexAddr Tryz.prog 27 (.lst xs) (.int k i) g = idxO 1 xs[i]? := iaT_lst sle27 cel43
theorem iz27 : ∀ (xs : List AV) (k : IntKind) (g : Nat → Option Ob), opIndexAddr Tryz.prog 27 (.lst xs) (.int k 0) g = idxO 1 xs[0]? := iaT_lst0 sle27 cel43
theorem is27 : ∀ (id tot off len : Nat) (k : IntKind) (n : Int) (g : Nat → Option Ob), opIndexAddr Tryz.prog 27 (.sl id tot off len) (.int k n) g = iaO 1 id tot off len n (g id) := iaT_sl sle27 cel43
theorem ap27 : ∀ (s x : AV) (g : Nat → Option Ob) (nid : Nat), opAppend Tryz.prog 27 s x g nid = apO 43 1 24 nid s g (rdS g x) := apT sle27 zo43 cel43 by43
theorem bz27 : ∀ (nid : Nat), opBuildSlice Tryz.prog 27 0 [] nid = some (.nil0, .non) := bsT0 sle27 zo43
theorem bs27 : ∀ (parts : List (Nat × AV)) (nid : Nat), opBuildSlice Tryz.prog 27 1 parts nid = bsO 43 1 .nil0 1 parts nid := bsT sle27 zo43 cel43 zr43 rfl rfl rfl
theorem ms27 : ∀ (k k' : IntKind) (n m : Int) (nid : Nat), opMakeSlice Tryz.prog 27 (.int k n) (.int k' m) nid = msO 43 1 24 .nil0 n m nid := msT sle27 zo43 cel43 by43 zr43 rfl rfl
theorem sle28 : sliceElem Tryz.prog 28 = some 43 := by kernel_rfl
theorem hi28 : hasInfo Tryz.prog 28 = true := by kernel_rfl
theorem ln28 : ∀ (xs : List AV) (g : Nat → Option Ob), opLen Tryz.prog 28 (.lst xs) g = some (.int .i64 xs.length) := lenT_lst sle28
theorem lz28 : ∀ (g : Nat → Option Ob), opLen Tryz.prog 28 .nil0 g = some (.int .i64 0) := lenT_nil0 sle28
theorem ls28 : ∀ (id tot off len : Nat) (g : Nat → Option Ob), opLen Tryz.prog 28 (.sl id tot off len) g = lenO tot len (g id) := lenT_sl sle28
theorem ia28 : ∀ (xs : List AV) (k : IntKind) (i : Nat) (g : Nat → Option Ob), opIndexAddr Tryz.prog 28 (.lst xs) (.int k i) g = idxO 1 xs[i]? := iaT_lst sle28 cel43
theorem iz28 : ∀ (xs : List AV) (k : IntKind) (g : Nat → Option Ob), opIndexAddr Tryz.prog 28 (.lst xs) (.int k 0) g = idxO 1 xs[0]? := iaT_lst0 sle28 cel43
theorem is28 : ∀ (id tot off len : Nat) (k : IntKind) (n : Int) (g : Nat → Option Ob), opIndexAddr Tryz.prog 28 (.sl id tot off len) (.int k n) g = iaO 1 id tot off len n (g id) := iaT_sl sle28 cel43
theorem ap28 : ∀ (s x : AV) (g : Nat → Option Ob) (nid : Nat), opAppend Tryz.prog 28 s x g nid = apO 43 1 24 nid s g (rdS g x) := apT sle28 zo43 cel43 by43
theorem bz28 : ∀ (nid : Nat), opBuildSlice Tryz.prog 28 0 [] nid = some (.nil0, .non) := bsT0 sle28 zo43
theorem bs28 : ∀ (parts : List (Nat × AV)) (nid : Nat), opBuildSlice Tryz.prog 28 1 parts nid = bsO 43 1 .nil0 1 parts nid := bsT sle28 zo43 cel43 zr43 rfl rfl rfl
theorem ms28 : ∀ (k k' : IntKind) (n m : Int) (nid : Nat), opMakeSlice Tryz.prog 28 (.int k n) (.int k' m) nid = msO 43 1 24 .nil0 n m nid := msT sle28 zo43 cel43 by43 zr43 rfl rfl
theorem sle41 : sliceElem Tryz.prog 41 = some 28 := by kernel_rfl
theorem hi41 : hasInfo Tryz.prog 41 = true := by kernel_rfl
theorem ln41 : ∀ (xs : List AV) (g : Nat → Option Ob), opLen Tryz.prog 41 (.lst xs) g = some (.int .i64 xs.length) := lenT_lst sle41
theorem lz41 : ∀ (g : Nat → Option Ob), opLen Tryz.prog 41 .nil0 g = some (.int .i64 0) := lenT_nil0 sle41
theorem ls41 : ∀ (id tot off len : Nat) (g : Nat → Option Ob), opLen Tryz.prog 41 (.sl id tot off len) g = lenO tot len (g id) := lenT_sl sle41
theorem ia41 : ∀ (xs : List AV) (k : IntKind) (i : Nat) (g : Nat → Option Ob), opIndexAddr Tryz.prog 41 (.lst xs) (.int k i) g = idxO 1 xs[i]? := iaT_lst sle41 cel28
theorem iz41 : ∀ (xs : List AV) (k : IntKind) (g : Nat → Option Ob), opIndexAddr Tryz.prog 41 (.lst xs) (.int k 0) g = idxO 1 xs[0]? := iaT_lst0 sle41 cel28
theorem is41 : ∀ (id tot off len : Nat) (k : IntKind) (n : Int) (g : Nat → Option Ob), opIndexAddr Tryz.prog 41 (.sl id tot off len) (.int k n) g = iaO 1 id tot off len n (g id) := iaT_sl sle41 cel28
theorem ap41 : ∀ (s x : AV) (g : Nat → Option Ob) (nid : Nat), opAppend Tryz.prog 41 s x g nid = apO 28 1 24 nid s g (rdS g x) := apT sle41 zo28 cel28 by28
theorem bz41 : ∀ (nid : Nat), opBuildSlice Tryz.prog 41 0 [] nid = some (.nil0, .non) := bsT0 sle41 zo28
theorem bs41 : ∀ (parts : List (Nat × AV)) (nid : Nat), opBuildSlice Tryz.prog 41 1 parts nid = bsO 28 1 .nil0 1 parts nid := bsT sle41 zo28 cel28 zr28 rfl rfl rfl
theorem ms41 : ∀ (k k' : IntKind) (n m : Int) (nid : Nat), opMakeSlice Tryz.prog 41 (.int k n) (.int k' m) nid = msO 28 1 24 .nil0 n m nid := msT sle41 zo28 cel28 by28 zr28 rfl rfl
theorem sle43 : sliceElem Tryz.prog 43 = some 49 := by kernel_rfl
theorem hi43 : hasInfo Tryz.prog 43 = true := by kernel_rfl
theorem ln43 : ∀ (xs : List AV) (g : Nat → Option Ob), opLen Tryz.prog 43 (.lst xs) g = some (.int .i64 xs.length) := lenT_lst sle43
theorem lz43 : ∀ (g : Nat → Option Ob), opLen Tryz.prog 43 .nil0 g = some (.int .i64 0) := lenT_nil0 sle43
theorem ls43 : ∀ (id tot off len : Nat) (g : Nat → Option Ob), opLen Tryz.prog 43 (.sl id tot off len) g = lenO tot len (g id) := lenT_sl sle43
theorem ia43 : ∀ (xs : List AV) (k : IntKind) (i : Nat) (g : Nat → Option Ob), opIndexAddr Tryz.prog 43 (.lst xs) (.int k i) g = idxO 8 xs[i]? := iaT_lst sle43 cel49
theorem iz43 : ∀ (xs : List AV) (k : IntKind) (g : Nat → Option Ob), opIndexAddr Tryz.prog 43 (.lst xs) (.int k 0) g = idxO 8 xs[0]? := iaT_lst0 sle43 cel49
theorem is43 : ∀ (id tot off len : Nat) (k : IntKind) (n : Int) (g : Nat → Option Ob), opIndexAddr Tryz.prog 43 (.sl id tot off len) (.int k n) g = iaO 8 id tot off len n (g id) := iaT_sl sle43 cel49
theorem ap43 : ∀ (s x : AV) (g : Nat → Option Ob) (nid : Nat), opAppend Tryz.prog 43 s x g nid = apO 49 8 8 nid s g (rdS g x) := apT sle43 zo49 cel49 by49
theorem bz43 : ∀ (nid : Nat), opBuildSlice Tryz.prog 43 0 [] nid = some (.nil0, .non) := bsT0 sle43 zo49
theorem bs43 : ∀ (parts : List (Nat × AV)) (nid : Nat), opBuildSlice Tryz.prog 43 1 parts nid = bsO 49 8 (.agg [(.int .u8 0), (.int .u8 0), (.int .u8 0), (.int .u8 0), (.int .u8 0), (.int .u8 0), (.int .u8 0), (.int .u8 0)]) 1 parts nid := bsT sle43 zo49 cel49 zr49 rfl rfl rfl
theorem ms43 : ∀ (k k' : IntKind) (n m : Int) (nid : Nat), opMakeSlice Tryz.prog 43 (.int k n) (.int k' m) nid = msO 49 8 8 (.agg [(.int .u8 0), (.int .u8 0), (.int .u8 0), (.int .u8 0), (.int .u8 0), (.int .u8 0), (.int .u8 0), (.int .u8 0)]) n m nid := msT sle43 zo49 cel49 by49 zr49 rfl rfl
theorem fo45x0 : fieldTO Tryz.prog 45 0 = some (3, 0) := by kernel_rfl
theorem fp45x0 : ∀ (id tot i off : Nat), opFieldAddr Tryz.prog 45 (.ptr id tot i off) 0 = some (.ptr id tot i (off + 0)) := fpT fo45x0 (by kernel_rfl)
theorem fc45x0 : ∀ (v : AV), opFieldAddr Tryz.prog 45 (.cptr v) 0 = fcO false (partA Tryz.prog 3 v.cells 0) := fcT fo45x0 (by kernel_rfl) (by kernel_rfl)
theorem fg45x0 : ∀ (xs : List AV), opField Tryz.prog 45 (.agg xs) 0 = partA Tryz.prog 3 xs 0 := fgT fo45x0
theorem fo45x1 : fieldTO Tryz.prog 45 1 = some (3, 1) := by kernel_rfl
theorem fp45x1 : ∀ (id tot i off : Nat), opFieldAddr Tryz.prog 45 (.ptr id tot i off) 1 = some (.ptr id tot i (off + 1)) := fpT fo45x1 (by kernel_rfl)
theorem fc45x1 : ∀ (v : AV), opFieldAddr Tryz.prog 45 (.cptr v) 1 = fcO false (partA Tryz.prog 3 v.cells 1) := fcT fo45x1 (by kernel_rfl) (by kernel_rfl)
theorem fg45x1 : ∀ (xs : List AV), opField Tryz.prog 45 (.agg xs) 1 = partA Tryz.prog 3 xs 1 := fgT fo45x1
theorem fo45x2 : fieldTO Tryz.prog 45 2 = some (43, 2) := by kernel_rfl
theorem fp45x2 : ∀ (id tot i off : Nat), opFieldAddr Tryz.prog 45 (.ptr id tot i off) 2 = some (.ptr id tot i (off + 2)) := fpT fo45x2 (by kernel_rfl)
theorem fc45x2 : ∀ (v : AV), opFieldAddr Tryz.prog 45 (.cptr v) 2 = fcO false (partA Tryz.prog 43 v.cells 2) := fcT fo45x2 (by kernel_rfl) (by kernel_rfl)
theorem fg45x2 : ∀ (xs : List AV), opField Tryz.prog 45 (.agg xs) 2 = partA Tryz.prog 43 xs 2 := fgT fo45x2
theorem bd45 : ∀ parts : List (Nat × AV), opBuild Tryz.prog 45 parts = bdO [(0, 1), (1, 1), (2, 1)] [(.int .i64 0), (.int .i64 0), .nil0] parts := bdT (by kernel_rfl) zr45
theorem sle66 : sliceElem Tryz.prog 66 = some 5 := by kernel_rfl
theorem hi66 : hasInfo Tryz.prog 66 = true := by kernel_rfl
theorem ln66 : ∀ (xs : List AV) (g : Nat → Option Ob), opLen Tryz.prog 66 (.lst xs) g = some (.int .i64 xs.length) := lenT_lst sle66
theorem lz66 : ∀ (g : Nat → Option Ob), opLen Tryz.prog 66 .nil0 g = some (.int .i64 0) := lenT_nil0 sle66
theorem ls66 : ∀ (id tot off len : Nat) (g : Nat → Option Ob), opLen Tryz.prog 66 (.sl id tot off len) g = lenO tot len (g id) := lenT_sl sle66
theorem ia66 : ∀ (xs : List AV) (k : IntKind) (i : Nat) (g : Nat → Option Ob), opIndexAddr Tryz.prog 66 (.lst xs) (.int k i) g = idxO 1 xs[i]? := iaT_lst sle66 cel5
theorem iz66 : ∀ (xs : List AV) (k : IntKind) (g : Nat → Option Ob), opIndexAddr Tryz.prog 66 (.lst xs) (.int k 0) g = idxO 1 xs[0]? := iaT_lst0 sle66 cel5
theorem is66 : ∀ (id tot off len : Nat) (k : IntKind) (n : Int) (g : Nat → Option Ob), opIndexAddr Tryz.prog 66 (.sl id tot off len) (.int k n) g = iaO 1 id tot off len n (g id) := iaT_sl sle66 cel5
theorem ap66 : ∀ (s x : AV) (g : Nat → Option Ob) (nid : Nat), opAppend Tryz.prog 66 s x g nid = apO 5 1 1 nid s g (rdS g x) := apT sle66 zo5 cel5 by5
theorem bz66 : ∀ (nid : Nat), opBuildSlice Tryz.prog 66 0 [] nid = some (.nil0, .non) := bsT0 sle66 zo5
theorem bs66 : ∀ (parts : List (Nat × AV)) (nid : Nat), opBuildSlice Tryz.prog 66 1 parts nid = bsO 5 1 (.int .u8 0) 1 parts nid := bsT sle66 zo5 cel5 zr5 rfl rfl rfl
theorem ms66 : ∀ (k k' : IntKind) (n m : Int) (nid : Nat), opMakeSlice Tryz.prog 66 (.int k n) (.int k' m) nid = msO 5 1 1 (.int .u8 0) n m nid := msT sle66 zo5 cel5 by5 zr5 rfl rfl
theorem fo69x0 : fieldTO Tryz.prog 69 0 = some (3, 0) := by kernel_rfl
theorem fp69x0 : ∀ (id tot i off : Nat), opFieldAddr Tryz.prog 69 (.ptr id tot i off) 0 = some (.ptr id tot i (off + 0)) := fpT fo69x0 (by kernel_rfl)
theorem fc69x0 : ∀ (v : AV), opFieldAddr Tryz.prog 69 (.cptr v) 0 = fcO false (partA Tryz.prog 3 v.cells 0) := fcT fo69x0 (by kernel_rfl) (by kernel_rfl)
theorem fg69x0 : ∀ (xs : List AV), opField Tryz.prog 69 (.agg xs) 0 = partA Tryz.prog 3 xs 0 := fgT fo69x0
theorem fo69x1 : fieldTO Tryz.prog 69 1 = some (3, 1) := by kernel_rfl
theorem fp69x1 : ∀ (id tot i off : Nat), opFieldAddr Tryz.prog 69 (.ptr id tot i off) 1 = some (.ptr id tot i (off + 1)) := fpT fo69x1 (by kernel_rfl)
theorem fc69x1 : ∀ (v : AV), opFieldAddr Tryz.prog 69 (.cptr v) 1 = fcO false (partA Tryz.prog 3 v.cells 1) := fcT fo69x1 (by kernel_rfl) (by kernel_rfl)
theorem fg69x1 : ∀ (xs : List AV), opField Tryz.prog 69 (.agg xs) 1 = partA Tryz.prog 3 xs 1 := fgT fo69x1
theorem bd69 : ∀ parts : List (Nat × AV), opBuild Tryz.prog 69 parts = bdO [(0, 1), (1, 1)] [(.int .i64 0), (.int .i64 0)] parts := bdT (by kernel_rfl) zr69
theorem fo81x0 : fieldTO Tryz.prog 81 0 = some (26, 0) := by kernel_rfl
theorem fp81x0 : ∀ (id tot i off : Nat), opFieldAddr Tryz.prog 81 (.ptr id tot i off) 0 = some (.ptr id tot i (off + 0)) := fpT fo81x0 (by kernel_rfl)
theorem fc81x0 : ∀ (v : AV), opFieldAddr Tryz.prog 81 (.cptr v) 0 = fcO true (partA Tryz.prog 26 v.cells 0) := fcT fo81x0 (by kernel_rfl) (by kernel_rfl)
theorem fg81x0 : ∀ (xs : List AV), opField Tryz.prog 81 (.agg xs) 0 = partA Tryz.prog 26 xs 0 := fgT fo81x0
theorem fo81x1 : fieldTO Tryz.prog 81 1 = some (28, 3) := by kernel_rfl
theorem fp81x1 : ∀ (id tot i off : Nat), opFieldAddr Tryz.prog 81 (.ptr id tot i off) 1 = some (.ptr id tot i (off + 3)) := fpT fo81x1 (by kernel_rfl)
theorem fc81x1 : ∀ (v : AV), opFieldAddr Tryz.prog 81 (.cptr v) 1 = fcO false (partA Tryz.prog 28 v.cells 3) := fcT fo81x1 (by kernel_rfl) (by kernel_rfl)
theorem fg81x1 : ∀ (xs : List AV), opField Tryz.prog 81 (.agg xs) 1 = partA Tryz.prog 28 xs 3 := fgT fo81x1
theorem fo81x2 : fieldTO Tryz.prog 81 2 = some (73, 4) := by kernel_rfl
theorem fp81x2 : ∀ (id tot i off : Nat), opFieldAddr Tryz.prog 81 (.ptr id tot i off) 2 = some (.ptr id tot i (off + 4)) := fpT fo81x2 (by kernel_rfl)
theorem fc81x2 : ∀ (v : AV), opFieldAddr Tryz.prog 81 (.cptr v) 2 = fcO false (partA Tryz.prog 73 v.cells 4) := fcT fo81x2 (by kernel_rfl) (by kernel_rfl)
theorem fg81x2 : ∀ (xs : List AV), opField Tryz.prog 81 (.agg xs) 2 = partA Tryz.prog 73 xs 4 := fgT fo81x2
theorem bd81 : ∀ parts : List (Nat × AV), opBuild Tryz.prog 81 parts = bdO [(0, 3), (3, 1), (4, 1)] [.nil0, .nil0, .nil0, .nil0, .nilm] parts := bdT (by kernel_rfl) zr81
theorem fo85x0 : fieldTO Tryz.prog 85 0 = some (3, 0) := by kernel_rfl
theorem fp85x0 : ∀ (id tot i off : Nat), opFieldAddr Tryz.prog 85 (.ptr id tot i off) 0 = some (.ptr id tot i (off + 0)) := fpT fo85x0 (by kernel_rfl)
theorem fc85x0 : ∀ (v : AV), opFieldAddr Tryz.prog 85 (.cptr v) 0 = fcO false (partA Tryz.prog 3 v.cells 0) := fcT fo85x0 (by kernel_rfl) (by kernel_rfl)
theorem fg85x0 : ∀ (xs : List AV), opField Tryz.prog 85 (.agg xs) 0 = partA Tryz.prog 3 xs 0 := fgT fo85x0
theorem fo85x1 : fieldTO Tryz.prog 85 1 = some (3, 1) := by kernel_rfl
theorem fp85x1 : ∀ (id tot i off : Nat), opFieldAddr Tryz.prog 85 (.ptr id tot i off) 1 = some (.ptr id tot i (off + 1)) := fpT fo85x1 (by kernel_rfl)
theorem fc85x1 : ∀ (v : AV), opFieldAddr Tryz.prog 85 (.cptr v) 1 = fcO false (partA Tryz.prog 3 v.cells 1) := fcT fo85x1 (by kernel_rfl) (by kernel_rfl)
theorem fg85x1 : ∀ (xs : List AV), opField Tryz.prog 85 (.agg xs) 1 = partA Tryz.prog 3 xs 1 := fgT fo85x1
theorem bd85 : ∀ parts : List (Nat × AV), opBuild Tryz.prog 85 parts = bdO [(0, 1), (1, 1)] [(.int .i64 0), (.int .i64 0)] parts := bdT (by kernel_rfl) zr85
theorem fo88x0 : fieldTO Tryz.prog 88 0 = some (85, 0) := by kernel_rfl
theorem fp88x0 : ∀ (id tot i off : Nat), opFieldAddr Tryz.prog 88 (.ptr id tot i off) 0 = some (.ptr id tot i (off + 0)) := fpT fo88x0 (by kernel_rfl)
theorem fc88x0 : ∀ (v : AV), opFieldAddr Tryz.prog 88 (.cptr v) 0 = fcO true (partA Tryz.prog 85 v.cells 0) := fcT fo88x0 (by kernel_rfl) (by kernel_rfl)
theorem fg88x0 : ∀ (xs : List AV), opField Tryz.prog 88 (.agg xs) 0 = partA Tryz.prog 85 xs 0 := fgT fo88x0
theorem fo88x1 : fieldTO Tryz.prog 88 1 = some (49, 2) := by kernel_rfl
theorem fp88x1 : ∀ (id tot i off : Nat), opFieldAddr Tryz.prog 88 (.ptr id tot i off) 1 = some (.ptr id tot i (off + 2)) := fpT fo88x1 (by kernel_rfl)
theorem fc88x1 : ∀ (v : AV), opFieldAddr Tryz.prog 88 (.cptr v) 1 = fcO true (partA Tryz.prog 49 v.cells 2) := fcT fo88x1 (by kernel_rfl) (by kernel_rfl)
theorem fg88x1 : ∀ (xs : List AV), opField Tryz.prog 88 (.agg xs) 1 = partA Tryz.prog 49 xs 2 := fgT fo88x1
theorem bd88 : ∀ parts : List (Nat × AV), opBuild Tryz.prog 88 parts = bdO [(0, 2), (2, 8)] [(.int .i64 0), (.int .i64 0), (.int .u8 0), (.int .u8 0), (.int .u8 0), (.int .u8 0), (.int .u8 0), (.int .u8 0), (.int .u8 0), (.int .u8 0)] parts := bdT (by kernel_rfl) zr88
theorem sle96 : sliceElem Tryz.prog 96 = some 4 := by kernel_rfl
theorem hi96 : hasInfo Tryz.prog 96 = true := by kernel_rfl
theorem ln96 : ∀ (xs : List AV) (g : Nat → Option Ob), opLen Tryz.prog 96 (.lst xs) g = some (.int .i64 xs.length) := lenT_lst sle96
theorem lz96 : ∀ (g : Nat → Option Ob), opLen Tryz.prog 96 .nil0 g = some (.int .i64 0) := lenT_nil0 sle96
theorem ls96 : ∀ (id tot off len : Nat) (g : Nat → Option Ob), opLen Tryz.prog 96 (.sl id tot off len) g = lenO tot len (g id) := lenT_sl sle96
theorem ia96 : ∀ (xs : List AV) (k : IntKind) (i : Nat) (g : Nat → Option Ob), opIndexAddr Tryz.prog 96 (.lst xs) (.int k i) g = idxO 1 xs[i]? := iaT_lst sle96 cel4
theorem iz96 : ∀ (xs : List AV) (k : IntKind) (g : Nat → Option Ob), opIndexAddr Tryz.prog 96 (.lst xs) (.int k 0) g = idxO 1 xs[0]? := iaT_lst0 sle96 cel4
theorem is96 : ∀ (id tot off len : Nat) (k : IntKind) (n : Int) (g : Nat → Option Ob), opIndexAddr Tryz.prog 96 (.sl id tot off len) (.int k n) g = iaO 1 id tot off len n (g id) := iaT_sl sle96 cel4
theorem ap96 : ∀ (s x : AV) (g : Nat → Option Ob) (nid : Nat), opAppend Tryz.prog 96 s x g nid = apO 4 1 1 nid s g (rdS g x) := apT sle96 zo4 cel4 by4
theorem bz96 : ∀ (nid : Nat), opBuildSlice Tryz.prog 96 0 [] nid = some (.nil0, .non) := bsT0 sle96 zo4
theorem bs96 : ∀ (parts : List (Nat × AV)) (nid : Nat), opBuildSlice Tryz.prog 96 1 parts nid = bsO 4 1 (.bool false) 1 parts nid := bsT sle96 zo4 cel4 zr4 rfl rfl rfl
theorem ms96 : ∀ (k k' : IntKind) (n m : Int) (nid : Nat), opMakeSlice Tryz.prog 96 (.int k n) (.int k' m) nid = msO 4 1 1 (.bool false) n m nid := msT sle96 zo4 cel4 by4 zr4 rfl rfl
theorem sle102 : sliceElem Tryz.prog 102 = some 105 := by kernel_rfl
theorem hi102 : hasInfo Tryz.prog 102 = true := by kernel_rfl
theorem ln102 : ∀ (xs : List AV) (g : Nat → Option Ob), opLen Tryz.prog 102 (.lst xs) g = some (.int .i64 xs.length) := lenT_lst sle102
theorem lz102 : ∀ (g : Nat → Option Ob), opLen Tryz.prog 102 .nil0 g = some (.int .i64 0) := lenT_nil0 sle102
theorem ls102 : ∀ (id tot off len : Nat) (g : Nat → Option Ob), opLen Tryz.prog 102 (.sl id tot off len) g = lenO tot len (g id) := lenT_sl sle102
theorem ia102 : ∀ (xs : List AV) (k : IntKind) (i : Nat) (g : Nat → Option Ob), opIndexAddr Tryz.prog 102 (.lst xs) (.int k i) g = idxO 1 xs[i]? := iaT_lst sle102 cel105
theorem iz102 : ∀ (xs : List AV) (k : IntKind) (g : Nat → Option Ob), opIndexAddr Tryz.prog 102 (.lst xs) (.int k 0) g = idxO 1 xs[0]? := iaT_lst0 sle102 cel105
theorem is102 : ∀ (id tot off len : Nat) (k : IntKind) (n : Int) (g : Nat → Option Ob), opIndexAddr Tryz.prog 102 (.sl id tot off len) (.int k n) g = iaO 1 id tot off len n (g id) := iaT_sl sle102 cel105
theorem ap102 : ∀ (s x : AV) (g : Nat → Option Ob) (nid : Nat), opAppend Tryz.prog 102 s x g nid = apO 105 1 24 nid s g (rdS g x) := apT sle102 zo105 cel105 by105
theorem bz102 : ∀ (nid : Nat), opBuildSlice Tryz.prog 102 0 [] nid = some (.nil0, .non) := bsT0 sle102 zo105
theorem bs102 : ∀ (parts : List (Nat × AV)) (nid : Nat), opBuildSlice Tryz.prog 102 1 parts nid = bsO 105 1 .nil0 1 parts nid := bsT sle102 zo105 cel105 zr105 rfl rfl rfl
theorem ms102 : ∀ (k k' : IntKind) (n m : Int) (nid : Nat), opMakeSlice Tryz.prog 102 (.int k n) (.int k' m) nid = msO 105 1 24 .nil0 n m nid := msT sle102 zo105 cel105 by105 zr105 rfl rfl
theorem sle105 : sliceElem Tryz.prog 105 = some 4 := by kernel_rfl
theorem hi105 : hasInfo Tryz.prog 105 = true := by kernel_rfl
theorem ln105 : ∀ (xs : List AV) (g : Nat → Option Ob), opLen Tryz.prog 105 (.lst xs) g = some (.int .i64 xs.length) := lenT_lst sle105
theorem lz105 : ∀ (g : Nat → Option Ob), opLen Tryz.prog 105 .nil0 g = some (.int .i64 0) := lenT_nil0 sle105
theorem ls105 : ∀ (id tot off len : Nat) (g : Nat → Option Ob), opLen Tryz.prog 105 (.sl id tot off len) g = lenO tot len (g id) := lenT_sl sle105
theorem ia105 : ∀ (xs : List AV) (k : IntKind) (i : Nat) (g : Nat → Option Ob), opIndexAddr Tryz.prog 105 (.lst xs) (.int k i) g = idxO 1 xs[i]? := iaT_lst sle105 cel4
theorem iz105 : ∀ (xs : List AV) (k : IntKind) (g : Nat → Option Ob), opIndexAddr Tryz.prog 105 (.lst xs) (.int k 0) g = idxO 1 xs[0]? := iaT_lst0 sle105 cel4
theorem is105 : ∀ (id tot off len : Nat) (k : IntKind) (n : Int) (g : Nat → Option Ob), opIndexAddr Tryz.prog 105 (.sl id tot off len) (.int k n) g = iaO 1 id tot off len n (g id) := iaT_sl sle105 cel4
theorem ap105 : ∀ (s x : AV) (g : Nat → Option Ob) (nid : Nat), opAppend Tryz.prog 105 s x g nid = apO 4 1 1 nid s g (rdS g x) := apT sle105 zo4 cel4 by4
theorem bz105 : ∀ (nid : Nat), opBuildSlice Tryz.prog 105 0 [] nid = some (.nil0, .non) := bsT0 sle105 zo4
theorem bs105 : ∀ (parts : List (Nat × AV)) (nid : Nat), opBuildSlice Tryz.prog 105 1 parts nid = bsO 4 1 (.bool false) 1 parts nid := bsT sle105 zo4 cel4 zr4 rfl rfl rfl
theorem ms105 : ∀ (k k' : IntKind) (n m : Int) (nid : Nat), opMakeSlice Tryz.prog 105 (.int k n) (.int k' m) nid = msO 4 1 1 (.bool false) n m nid := msT sle105 zo4 cel4 by4 zr4 rfl rfl
theorem fo111x0 : fieldTO Tryz.prog 111 0 = some (3, 0) := by kernel_rfl
theorem fp111x0 : ∀ (id tot i off : Nat), opFieldAddr Tryz.prog 111 (.ptr id tot i off) 0 = some (.ptr id tot i (off + 0)) := fpT fo111x0 (by kernel_rfl)
theorem fc111x0 : ∀ (v : AV), opFieldAddr Tryz.prog 111 (.cptr v) 0 = fcO false (partA Tryz.prog 3 v.cells 0) := fcT fo111x0 (by kernel_rfl) (by kernel_rfl)
theorem fg111x0 : ∀ (xs : List AV), opField Tryz.prog 111 (.agg xs) 0 = partA Tryz.prog 3 xs 0 := fgT fo111x0
theorem fo111x1 : fieldTO Tryz.prog 111 1 = some (3, 1) := by kernel_rfl
theorem fp111x1 : ∀ (id tot i off : Nat), opFieldAddr Tryz.prog 111 (.ptr id tot i off) 1 = some (.ptr id tot i (off + 1)) := fpT fo111x1 (by kernel_rfl)
theorem fc111x1 : ∀ (v : AV), opFieldAddr Tryz.prog 111 (.cptr v) 1 = fcO false (partA Tryz.prog 3 v.cells 1) := fcT fo111x1 (by kernel_rfl) (by kernel_rfl)
theorem fg111x1 : ∀ (xs : List AV), opField Tryz.prog 111 (.agg xs) 1 = partA Tryz.prog 3 xs 1 := fgT fo111x1
theorem fo111x2 : fieldTO Tryz.prog 111 2 = some (22, 2) := by kernel_rfl
theorem fp111x2 : ∀ (id tot i off : Nat), opFieldAddr Tryz.prog 111 (.ptr id tot i off) 2 = some (.ptr id tot i (off + 2)) := fpT fo111x2 (by kernel_rfl)
theorem fc111x2 : ∀ (v : AV), opFieldAddr Tryz.prog 111 (.cptr v) 2 = fcO false (partA Tryz.prog 22 v.cells 2) := fcT fo111x2 (by kernel_rfl) (by kernel_rfl)
theorem fg111x2 : ∀ (xs : List AV), opField Tryz.prog 111 (.agg xs) 2 = partA Tryz.prog 22 xs 2 := fgT fo111x2
theorem fo111x3 : fieldTO Tryz.prog 111 3 = some (22, 3) := by kernel_rfl
theorem fp111x3 : ∀ (id tot i off : Nat), opFieldAddr Tryz.prog 111 (.ptr id tot i off) 3 = some (.ptr id tot i (off + 3)) := fpT fo111x3 (by kernel_rfl)
theorem fc111x3 : ∀ (v : AV), opFieldAddr Tryz.prog 111 (.cptr v) 3 = fcO false (partA Tryz.prog 22 v.cells 3) := fcT fo111x3 (by kernel_rfl) (by kernel_rfl)
theorem fg111x3 : ∀ (xs : List AV), opField Tryz.prog 111 (.agg xs) 3 = partA Tryz.prog 22 xs 3 := fgT fo111x3
theorem bd111 : ∀ parts : List (Nat × AV), opBuild Tryz.prog 111 parts = bdO [(0, 1), (1, 1), (2, 1), (3, 1)] [(.int .i64 0), (.int .i64 0), .nil0, .nil0] parts := bdT (by kernel_rfl) zr111
theorem sle117 : sliceElem Tryz.prog 117 = some 96 := by kernel_rfl
theorem hi117 : hasInfo Tryz.prog 117 = true := by kernel_rfl
theorem ln117 : ∀ (xs : List AV) (g : Nat → Option Ob), opLen Tryz.prog 117 (.lst xs) g = some (.int .i64 xs.length) := lenT_lst sle117
theorem lz117 : ∀ (g : Nat → Option Ob), opLen Tryz.prog 117 .nil0 g = some (.int .i64 0) := lenT_nil0 sle117
theorem ls117 : ∀ (id tot off len : Nat) (g : Nat → Option Ob), opLen Tryz.prog 117 (.sl id tot off len) g = lenO tot len (g id) := lenT_sl sle117
theorem ia117 : ∀ (xs : List AV) (k : IntKind) (i : Nat) (g : Nat → Option Ob), opIndexAddr Tryz.prog 117 (.lst xs) (.int k i) g = idxO 1 xs[i]? := iaT_lst sle117 cel96
theorem iz117 : ∀ (xs : List AV) (k : IntKind) (g : Nat → Option Ob), opIndexAddr Tryz.prog 117 (.lst xs) (.int k 0) g = idxO 1 xs[0]? := iaT_lst0 sle117 cel96
theorem is117 : ∀ (id tot off len : Nat) (k : IntKind) (n : Int) (g : Nat → Option Ob), opIndexAddr Tryz.prog 117 (.sl id tot off len) (.int k n) g = iaO 1 id tot off len n (g id) := iaT_sl sle117 cel96
theorem ap117 : ∀ (s x : AV) (g : Nat → Option Ob) (nid : Nat), opAppend Tryz.prog 117 s x g nid = apO 96 1 24 nid s g (rdS g x) := apT sle117 zo96 cel96 by96
theorem bz117 : ∀ (nid : Nat), opBuildSlice Tryz.prog 117 0 [] nid = some (.nil0, .non) := bsT0 sle117 zo96
theorem bs117 : ∀ (parts : List (Nat × AV)) (nid : Nat), opBuildSlice Tryz.prog 117 1 parts nid = bsO 96 1 .nil0 1 parts nid := bsT sle117 zo96 cel96 zr96 rfl rfl rfl
theorem ms117 : ∀ (k k' : IntKind) (n m : Int) (nid : Nat), opMakeSlice Tryz.prog 117 (.int k n) (.int k' m) nid = msO 96 1 24 .nil0 n m nid := msT sle117 zo96 cel96 by96 zr96 rfl rfl
theorem fo121x0 : fieldTO Tryz.prog 121 0 = some (22, 0) := by kernel_rfl
theorem fp121x0 : ∀ (id tot i off : Nat), opFieldAddr Tryz.prog 121 (.ptr id tot i off) 0 = some (.ptr id tot i (off + 0)) := fpT fo121x0 (by kernel_rfl)
theorem fc121x0 : ∀ (v : AV), opFieldAddr Tryz.prog 121 (.cptr v) 0 = fcO false (partA Tryz.prog 22 v.cells 0) := fcT fo121x0 (by kernel_rfl) (by kernel_rfl)
theorem fg121x0 : ∀ (xs : List AV), opField Tryz.prog 121 (.agg xs) 0 = partA Tryz.prog 22 xs 0 := fgT fo121x0
theorem fo121x1 : fieldTO Tryz.prog 121 1 = some (22, 1) := by kernel_rfl
theorem fp121x1 : ∀ (id tot i off : Nat), opFieldAddr Tryz.prog 121 (.ptr id tot i off) 1 = some (.ptr id tot i (off + 1)) := fpT fo121x1 (by kernel_rfl)
theorem fc121x1 : ∀ (v : AV), opFieldAddr Tryz.prog 121 (.cptr v) 1 = fcO false (partA Tryz.prog 22 v.cells 1) := fcT fo121x1 (by kernel_rfl) (by kernel_rfl)
theorem fg121x1 : ∀ (xs : List AV), opField Tryz.prog 121 (.agg xs) 1 = partA Tryz.prog 22 xs 1 := fgT fo121x1
theorem bd121 : ∀ parts : List (Nat × AV), opBuild Tryz.prog 121 parts = bdO [(0, 1), (1, 1)] [.nil0, .nil0] parts := bdT (by kernel_rfl) zr121
theorem fo123x0 : fieldTO Tryz.prog 123 0 = some (26, 0) := by kernel_rfl
theorem fp123x0 : ∀ (id tot i off : Nat), opFieldAddr Tryz.prog 123 (.ptr id tot i off) 0 = some (.ptr id tot i (off + 0)) := fpT fo123x0 (by kernel_rfl)
theorem fc123x0 : ∀ (v : AV), opFieldAddr Tryz.prog 123 (.cptr v) 0 = fcO true (partA Tryz.prog 26 v.cells 0) := fcT fo123x0 (by kernel_rfl) (by kernel_rfl)
theorem fg123x0 : ∀ (xs : List AV), opField Tryz.prog 123 (.agg xs) 0 = partA Tryz.prog 26 xs 0 := fgT fo123x0
theorem fo123x1 : fieldTO Tryz.prog 123 1 = some (121, 3) := by kernel_rfl
theorem fp123x1 : ∀ (id tot i off : Nat), opFieldAddr Tryz.prog 123 (.ptr id tot i off) 1 = some (.ptr id tot i (off + 3)) := fpT fo123x1 (by kernel_rfl)
theorem fc123x1 : ∀ (v : AV), opFieldAddr Tryz.prog 123 (.cptr v) 1 = fcO true (partA Tryz.prog 121 v.cells 3) := fcT fo123x1 (by kernel_rfl) (by kernel_rfl)
theorem fg123x1 : ∀ (xs : List AV), opField Tryz.prog 123 (.agg xs) 1 = partA Tryz.prog 121 xs 3 := fgT fo123x1
theorem bd123 : ∀ parts : List (Nat × AV), opBuild Tryz.prog 123 parts = bdO [(0, 3), (3, 2)] [.nil0, .nil0, .nil0, .nil0, .nil0] parts := bdT (by kernel_rfl) zr123
theorem sle140 : sliceElem Tryz.prog 140 = some 22 := by kernel_rfl
theorem hi140 : hasInfo Tryz.prog 140 = true := by kernel_rfl
theorem ln140 : ∀ (xs : List AV) (g : Nat → Option Ob), opLen Tryz.prog 140 (.lst xs) g = some (.int .i64 xs.length) := lenT_lst sle140
theorem lz140 : ∀ (g : Nat → Option Ob), opLen Tryz.prog 140 .nil0 g = some (.int .i64 0) := lenT_nil0 sle140
theorem ls140 : ∀ (id tot off len : Nat) (g : Nat → Option Ob), opLen Tryz.prog 140 (.sl id tot off len) g = lenO tot len (g id) := lenT_sl sle140
theorem ia140 : ∀ (xs : List AV) (k : IntKind) (i : Nat) (g : Nat → Option Ob), opIndexAddr Tryz.prog 140 (.lst xs) (.int k i) g = idxO 1 xs[i]? := iaT_lst sle140 cel22
theorem iz140 : ∀ (xs : List AV) (k : IntKind) (g : Nat → Option Ob), opIndexAddr Tryz.prog 140 (.lst xs) (.int k 0) g = idxO 1 xs[0]? := iaT_lst0 sle140 cel22
theorem is140 : ∀ (id tot off len : Nat) (k : IntKind) (n : Int) (g : Nat → Option Ob), opIndexAddr Tryz.prog 140 (.sl id tot off len) (.int k n) g = iaO 1 id tot off len n (g id) := iaT_sl sle140 cel22
theorem ap140 : ∀ (s x : AV) (g : Nat → Option Ob) (nid : Nat), opAppend Tryz.prog 140 s x g nid = apO 22 1 24 nid s g (rdS g x) := apT sle140 zo22 cel22 by22
theorem bz140 : ∀ (nid : Nat), opBuildSlice Tryz.prog 140 0 [] nid = some (.nil0, .non) := bsT0 sle140 zo22
theorem bs140 : ∀ (parts : List (Nat × AV)) (nid : Nat), opBuildSlice Tryz.prog 140 1 parts nid = bsO 22 1 .nil0 1 parts nid := bsT sle140 zo22 cel22 zr22 rfl rfl rfl
theorem ms140 : ∀ (k k' : IntKind) (n m : Int) (nid : Nat), opMakeSlice Tryz.prog 140 (.int k n) (.int k' m) nid = msO 22 1 24 .nil0 n m nid := msT sle140 zo22 cel22 by22 zr22 rfl rfl
theorem mp72 : mapKV 72 Tryz.prog = some (88, 3) := by kernel_rfl
theorem mp73 : mapKV 73 Tryz.prog = some (88, 3) := by kernel_rfl
theorem mp82 : mapKV 82 Tryz.prog = some (3, 4) := by kernel_rfl
theorem mixed : Tryz.prog.follows .mixedOrders = true := by kernel_rfl
theorem ty3 : type_of% pa3 ∧ type_of% lv3 ∧ type_of% st3 ∧ type_of% zr3 := ⟨pa3, lv3, st3, zr3⟩
theorem ty4 : type_of% pa4 ∧ type_of% lv4 ∧ type_of% st4 ∧ type_of% zr4 ∧ type_of% ib4 := ⟨pa4, lv4, st4, zr4, ib4⟩
theorem ty5 : type_of% pa5 ∧ type_of% lv5 ∧ type_of% st5 ∧ type_of% zr5 := ⟨pa5, lv5, st5, zr5⟩
theorem ty22 : type_of% pa22 ∧ type_of% lv22 ∧ type_of% st22 ∧ type_of% zr22 ∧ type_of% hi22 ∧ type_of% ln22 ∧ type_of% lz22 ∧ type_of% ls22 ∧ type_of% ia22 ∧ type_of% iz22 ∧ type_of% is22 ∧ type_of% ap22 ∧ type_of% bz22 ∧ type_of% bs22 ∧ type_of% ms22 := ⟨pa22, lv22, st22, zr22, hi22, ln22, lz22, ls22, ia22, iz22, is22, ap22, bz22, bs22, ms22⟩
theorem ty23 : type_of% pa23 ∧ type_of% lv23 ∧ type_of% st23 ∧ type_of% zr23 ∧ type_of% hi23 ∧ type_of% ln23 ∧ type_of% lz23 ∧ type_of% ls23 ∧ type_of% ia23 ∧ type_of% iz23 ∧ type_of% is23 ∧ type_of% ap23 ∧ type_of% bz23 ∧ type_of% bs23 ∧ type_of% ms23 := ⟨pa23, lv23, st23, zr23, hi23, ln23, lz23, ls23, ia23, iz23, is23, ap23, bz23, bs23, ms23⟩
theorem ty24 : type_of% pa24 ∧ type_of% lv24 ∧ type_of% st24 ∧ type_of% zr24 ∧ type_of% hi24 ∧ type_of% ln24 ∧ type_of% lz24 ∧ type_of% ls24 ∧ type_of% ia24 ∧ type_of% iz24 ∧ type_of% is24 ∧ type_of% ap24 ∧ type_of% bz24 ∧ type_of% bs24 ∧ type_of% ms24 := ⟨pa24, lv24, st24, zr24, hi24, ln24, lz24, ls24, ia24, iz24, is24, ap24, bz24, bs24, ms24⟩
theorem ty26 : type_of% pa26 ∧ type_of% lv26 ∧ type_of% st26 ∧ type_of% zr26 ∧ type_of% fp26x0 ∧ type_of% fc26x0 ∧ type_of% fg26x0 ∧ type_of% fp26x1 ∧ type_of% fc26x1 ∧ type_of% fg26x1 ∧ type_of% fp26x2 ∧ type_of% fc26x2 ∧ type_of% fg26x2 ∧ type_of% bd26 := ⟨pa26, lv26, st26, zr26, fp26x0, fc26x0, fg26x0, fp26x1, fc26x1, fg26x1, fp26x2, fc26x2, fg26x2, bd26⟩
theorem ty27 : type_of% pa27 ∧ type_of% lv27 ∧ type_of% st27 ∧ type_of% zr27 ∧ type_of% hi27 ∧ type_of% ln27 ∧ type_of% lz27 ∧ type_of% ls27 ∧ type_of% ia27 ∧ type_of% iz27 ∧ type_of% is27 ∧ type_of% ap27 ∧ type_of% bz27 ∧ type_of% bs27 ∧ type_of% ms27 := ⟨pa27, lv27, st27, zr27, hi27, ln27, lz27, ls27, ia27, iz27, is27, ap27, bz27, bs27, ms27⟩
theorem ty28 : type_of% pa28 ∧ type_of% lv28 ∧ type_of% st28 ∧ type_of% zr28 ∧ type_of% hi28 ∧ type_of% ln28 ∧ type_of% lz28 ∧ type_of% ls28 ∧ type_of% ia28 ∧ type_of% iz28 ∧ type_of% is28 ∧ type_of% ap28 ∧ type_of% bz28 ∧ type_of% bs28 ∧ type_of% ms28 := ⟨pa28, lv28, st28, zr28, hi28, ln28, lz28, ls28, ia28, iz28, is28, ap28, bz28, bs28, ms28⟩
theorem ty31 : type_of% pa31 ∧ type_of% lv31 ∧ type_of% st31 ∧ type_of% zr31 := ⟨pa31, lv31, st31, zr31⟩
theorem ty41 : type_of% pa41 ∧ type_of% lv41 ∧ type_of% st41 ∧ type_of% zr41 ∧ type_of% hi41 ∧ type_of% ln41 ∧ type_of% lz41 ∧ type_of% ls41 ∧ type_of% ia41 ∧ type_of% iz41 ∧ type_of% is41 ∧ type_of% ap41 ∧ type_of% bz41 ∧ type_of% bs41 ∧ type_of% ms41 := ⟨pa41, lv41, st41, zr41, hi41, ln41, lz41, ls41, ia41, iz41, is41, ap41, bz41, bs41, ms41⟩
theorem ty43 : type_of% pa43 ∧ type_of% lv43 ∧ type_of% st43 ∧ type_of% zr43 ∧ type_of% hi43 ∧ type_of% ln43 ∧ type_of% lz43 ∧ type_of% ls43 ∧ type_of% ia43 ∧ type_of% iz43 ∧ type_of% is43 ∧ type_of% ap43 ∧ type_of% bz43 ∧ type_of% bs43 ∧ type_of% ms43 := ⟨pa43, lv43, st43, zr43, hi43, ln43, lz43, ls43, ia43, iz43, is43, ap43, bz43, bs43, ms43⟩
theorem ty45 : type_of% pa45 ∧ type_of% lv45 ∧ type_of% st45 ∧ type_of% zr45 ∧ type_of% fp45x0 ∧ type_of% fc45x0 ∧ type_of% fg45x0 ∧ type_of% fp45x1 ∧ type_of% fc45x1 ∧ type_of% fg45x1 ∧ type_of% fp45x2 ∧ type_of% fc45x2 ∧ type_of% fg45x2 ∧ type_of% bd45 := ⟨pa45, lv45, st45, zr45, fp45x0, fc45x0, fg45x0, fp45x1, fc45x1, fg45x1, fp45x2, fc45x2, fg45x2, bd45⟩
theorem ty49 : type_of% pa49 ∧ type_of% lv49 ∧ type_of% st49 ∧ type_of% zr49 := ⟨pa49, lv49, st49, zr49⟩
theorem ty52 : type_of% pa52 ∧ type_of% lv52 ∧ type_of% st52 ∧ type_of% zr52 := ⟨pa52, lv52, st52, zr52⟩
theorem ty60 : type_of% pa60 ∧ type_of% lv60 ∧ type_of% st60 ∧ type_of% zr60 := ⟨pa60, lv60, st60, zr60⟩
theorem ty66 : type_of% pa66 ∧ type_of% lv66 ∧ type_of% st66 ∧ type_of% zr66 ∧ type_of% hi66 ∧ type_of% ln66 ∧ type_of% lz66 ∧ type_of% ls66 ∧ type_of% ia66 ∧ type_of% iz66 ∧ type_of% is66 ∧ type_of% ap66 ∧ type_of% bz66 ∧ type_of% bs66 ∧ type_of% ms66 := ⟨pa66, lv66, st66, zr66, hi66, ln66, lz66, ls66, ia66, iz66, is66, ap66, bz66, bs66, ms66⟩
theorem ty69 : type_of% pa69 ∧ type_of% lv69 ∧ type_of% st69 ∧ type_of% zr69 ∧ type_of% fp69x0 ∧ type_of% fc69x0 ∧ type_of% fg69x0 ∧ type_of% fp69x1 ∧ type_of% fc69x1 ∧ type_of% fg69x1 ∧ type_of% bd69 := ⟨pa69, lv69, st69, zr69, fp69x0, fc69x0, fg69x0, fp69x1, fc69x1, fg69x1, bd69⟩
theorem ty72 : type_of% pa72 ∧ type_of% lv72 ∧ type_of% st72 ∧ type_of% zr72 ∧ type_of% mp72 := ⟨pa72, lv72, st72, zr72, mp72⟩
theorem ty73 : type_of% pa73 ∧ type_of% lv73 ∧ type_of% st73 ∧ type_of% zr73 ∧ type_of% mp73 := ⟨pa73, lv73, st73, zr73, mp73⟩
theorem ty81 : type_of% pa81 ∧ type_of% lv81 ∧ type_of% st81 ∧ type_of% zr81 ∧ type_of% fp81x0 ∧ type_of% fc81x0 ∧ type_of% fg81x0 ∧ type_of% fp81x1 ∧ type_of% fc81x1 ∧ type_of% fg81x1 ∧ type_of% fp81x2 ∧ type_of% fc81x2 ∧ type_of% fg81x2 ∧ type_of% bd81 := ⟨pa81, lv81, st81, zr81, fp81x0, fc81x0, fg81x0, fp81x1, fc81x1, fg81x1, fp81x2, fc81x2, fg81x2, bd81⟩
theorem ty82 : type_of% pa82 ∧ type_of% lv82 ∧ type_of% st82 ∧ type_of% zr82 ∧ type_of% mp82 := ⟨pa82, lv82, st82, zr82, mp82⟩
theorem ty85 : type_of% pa85 ∧ type_of% lv85 ∧ type_of% st85 ∧ type_of% zr85 ∧ type_of% fp85x0 ∧ type_of% fc85x0 ∧ type_of% fg85x0 ∧ type_of% fp85x1 ∧ type_of% fc85x1 ∧ type_of% fg85x1 ∧ type_of% bd85 := ⟨pa85, lv85, st85, zr85, fp85x0, fc85x0, fg85x0, fp85x1, fc85x1, fg85x1, bd85⟩
theorem ty88 : type_of% pa88 ∧ type_of% lv88 ∧ type_of% st88 ∧ type_of% zr88 ∧ type_of% fp88x0 ∧ type_of% fc88x0 ∧ type_of% fg88x0 ∧ type_of% fp88x1 ∧ type_of% fc88x1 ∧ type_of% fg88x1 ∧ type_of% bd88 := ⟨pa88, lv88, st88, zr88, fp88x0, fc88x0, fg88x0, fp88x1, fc88x1, fg88x1, bd88⟩
theorem ty96 : type_of% pa96 ∧ type_of% lv96 ∧ type_of% st96 ∧ type_of% zr96 ∧ type_of% hi96 ∧ type_of% ln96 ∧ type_of% lz96 ∧ type_of% ls96 ∧ type_of% ia96 ∧ type_of% iz96 ∧ type_of% is96 ∧ type_of% ap96 ∧ type_of% bz96 ∧ type_of% bs96 ∧ type_of% ms96 := ⟨pa96, lv96, st96, zr96, hi96, ln96, lz96, ls96, ia96, iz96, is96, ap96, bz96, bs96, ms96⟩
theorem ty100 : type_of% pa100 ∧ type_of% lv100 ∧ type_of% st100 ∧ type_of% zr100 := ⟨pa100, lv100, st100, zr100⟩
theorem ty101 : type_of% pa101 ∧ type_of% lv101 ∧ type_of% st101 ∧ type_of% zr101 := ⟨pa101, lv101, st101, zr101⟩
theorem ty102 : type_of% pa102 ∧ type_of% lv102 ∧ type_of% st102 ∧ type_of% zr102 ∧ type_of% hi102 ∧ type_of% ln102 ∧ type_of% lz102 ∧ type_of% ls102 ∧ type_of% ia102 ∧ type_of% iz102 ∧ type_of% is102 ∧ type_of% ap102 ∧ type_of% bz102 ∧ type_of% bs102 ∧ type_of% ms102 := ⟨pa102, lv102, st102, zr102, hi102, ln102, lz102, ls102, ia102, iz102, is102, ap102, bz102, bs102, ms102⟩
theorem ty105 : type_of% pa105 ∧ type_of% lv105 ∧ type_of% st105 ∧ type_of% zr105 ∧ type_of% hi105 ∧ type_of% ln105 ∧ type_of% lz105 ∧ type_of% ls105 ∧ type_of% ia105 ∧ type_of% iz105 ∧ type_of% is105 ∧ type_of% ap105 ∧ type_of% bz105 ∧ type_of% bs105 ∧ type_of% ms105 := ⟨pa105, lv105, st105, zr105, hi105, ln105, lz105, ls105, ia105, iz105, is105, ap105, bz105, bs105, ms105⟩
theorem ty111 : type_of% pa111 ∧ type_of% lv111 ∧ type_of% st111 ∧ type_of% zr111 ∧ type_of% fp111x0 ∧ type_of% fc111x0 ∧ type_of% fg111x0 ∧ type_of% fp111x1 ∧ type_of% fc111x1 ∧ type_of% fg111x1 ∧ type_of% fp111x2 ∧ type_of% fc111x2 ∧ type_of% fg111x2 ∧ type_of% fp111x3 ∧ type_of% fc111x3 ∧ type_of% fg111x3 ∧ type_of% bd111 := ⟨pa111, lv111, st111, zr111, fp111x0, fc111x0, fg111x0, fp111x1, fc111x1, fg111x1, fp111x2, fc111x2, fg111x2, fp111x3, fc111x3, fg111x3, bd111⟩
theorem ty117 : type_of% pa117 ∧ type_of% lv117 ∧ type_of% st117 ∧ type_of% zr117 ∧ type_of% hi117 ∧ type_of% ln117 ∧ type_of% lz117 ∧ type_of% ls117 ∧ type_of% ia117 ∧ type_of% iz117 ∧ type_of% is117 ∧ type_of% ap117 ∧ type_of% bz117 ∧ type_of% bs117 ∧ type_of% ms117 := ⟨pa117, lv117, st117, zr117, hi117, ln117, lz117, ls117, ia117, iz117, is117, ap117, bz117, bs117, ms117⟩
theorem ty121 : type_of% pa121 ∧ type_of% lv121 ∧ type_of% st121 ∧ type_of% zr121 ∧ type_of% fp121x0 ∧ type_of% fc121x0 ∧ type_of% fg121x0 ∧ type_of% fp121x1 ∧ type_of% fc121x1 ∧ type_of% fg121x1 ∧ type_of% bd121 := ⟨pa121, lv121, st121, zr121, fp121x0, fc121x0, fg121x0, fp121x1, fc121x1, fg121x1, bd121⟩
theorem ty123 : type_of% pa123 ∧ type_of% lv123 ∧ type_of% st123 ∧ type_of% zr123 ∧ type_of% fp123x0 ∧ type_of% fc123x0 ∧ type_of% fg123x0 ∧ type_of% fp123x1 ∧ type_of% fc123x1 ∧ type_of% fg123x1 ∧ type_of% bd123 := ⟨pa123, lv123, st123, zr123, fp123x0, fc123x0, fg123x0, fp123x1, fc123x1, fg123x1, bd123⟩
theorem ty140 : type_of% pa140 ∧ type_of% lv140 ∧ type_of% st140 ∧ type_of% zr140 ∧ type_of% hi140 ∧ type_of% ln140 ∧ type_of% lz140 ∧ type_of% ls140 ∧ type_of% ia140 ∧ type_of% iz140 ∧ type_of% is140 ∧ type_of% ap140 ∧ type_of% bz140 ∧ type_of% bs140 ∧ type_of% ms140 := ⟨pa140, lv140, st140, zr140, hi140, ln140, lz140, ls140, ia140, iz140, is140, ap140, bz140, bs140, ms140⟩
theorem ty165 : type_of% pa165 ∧ type_of% lv165 ∧ type_of% st165 ∧ type_of% zr165 := ⟨pa165, lv165, st165, zr165⟩
theorem ty171 : type_of% pa171 ∧ type_of% lv171 ∧ type_of% st171 ∧ type_of% zr171 := ⟨pa171, lv171, st171, zr171⟩
theorem TY : (((((type_of% ty3) ∧ (type_of% ty4)) ∧ ((type_of% ty5) ∧ (type_of% ty22))) ∧ (((type_of% ty23) ∧ (type_of% ty24)) ∧ ((type_of% ty26) ∧ ((type_of% ty27) ∧ (type_of% ty28))))) ∧ ((((type_of% ty31) ∧ (type_of% ty41)) ∧ ((type_of% ty43) ∧ (type_of% ty45))) ∧ (((type_of% ty49) ∧ (type_of% ty52)) ∧ ((type_of% ty60) ∧ ((type_of% ty66) ∧ (type_of% ty69)))))) ∧ (((((type_of% ty72) ∧ (type_of% ty73)) ∧ ((type_of% ty81) ∧ (type_of% ty82))) ∧ (((type_of% ty85) ∧ (type_of% ty88)) ∧ ((type_of% ty96) ∧ ((type_of% ty100) ∧ (type_of% ty101))))) ∧ ((((type_of% ty102) ∧ (type_of% ty105)) ∧ ((type_of% ty111) ∧ (type_of% ty117))) ∧ (((type_of% ty121) ∧ (type_of% ty123)) ∧ ((type_of% ty140) ∧ ((type_of% ty165) ∧ (type_of% ty171)))))) := ⟨⟨⟨⟨⟨ty3, ty4⟩, ⟨ty5, ty22⟩⟩, ⟨⟨ty23, ty24⟩, ⟨ty26, ⟨ty27, ty28⟩⟩⟩⟩, ⟨⟨⟨ty31, ty41⟩, ⟨ty43, ty45⟩⟩, ⟨⟨ty49, ty52⟩, ⟨ty60, ⟨ty66, ty69⟩⟩⟩⟩⟩, ⟨⟨⟨⟨ty72, ty73⟩, ⟨ty81, ty82⟩⟩, ⟨⟨ty85, ty88⟩, ⟨ty96, ⟨ty100, ty101⟩⟩⟩⟩, ⟨⟨⟨ty102, ty105⟩, ⟨ty111, ty117⟩⟩, ⟨⟨ty121, ty123⟩, ⟨ty140, ⟨ty165, ty171⟩⟩⟩⟩⟩⟩
end Go.Proofs.YtfdfkmcplhloaaaGreat
end

section
set_option linter.unusedSimpArgs false
set_option linter.unusedVariables false
namespace Go.Proofs.YtfdfkmcplhloaaaGreat
open Go.Proofs
open Nat renaming reduceEqDiff → nE, reduceAdd → nA, reduceLeDiff → nL, reduceLT → nT
abbrev I (i : Int) : AV := .int .i64 i
abbrev B (b : Bool) : AV := .bool b

structure Sec where
  (a b c d e f g h : Int)
  deriving DecidableEq
def Sec.av (s : Sec) : AV := .agg [.int .u8 s.a, .int .u8 s.b, .int .u8 s.c, .int .u8 s.d, .int .u8 s.e, .int .u8 s.f, .int .u8 s.g, .int .u8 s.h]
theorem sec_cells (s : Sec) : s.av.cells.length = 8 := rfl
theorem sec_okc (s : Sec) : s.av.okc = true := rfl
theorem sec_isAgg (s : Sec) : s.av.isAgg = true := rfl
theorem sec_idf (s : Sec) : Idf s.av := by simp only [Sec.av, IDF, and_tt]
theorem sec_idf' (s : Sec) : Idf s.av = True := eq_true (sec_idf s)
theorem sec_ld (s : Sec) : loadV Tryz.prog 49 s.av 0 = some s.av := by simp only [Sec.av, ty49]; rfl
def sec0 : Sec := ⟨0, 0, 0, 0, 0, 0, 0, 0⟩
theorem sec_eq (x y : Sec) : (eqT Tryz.prog 10 49 x.av y.av) = some (decide (x = y)) := by
  have h : (eqT Tryz.prog 10 49 x.av y.av) = if (x.a == y.a) = true then (if (x.b == y.b) = true then (if (x.c == y.c) = true then (if (x.d == y.d) = true then (if (x.e == y.e) = true then (if (x.f == y.f) = true then (if (x.g == y.g) = true then (if (x.h == y.h) = true then some true else some false) else some false) else some false) else some false) else some false) else some false) else some false) else some false := by kernel_rfl
  rw [h]
  cases x; cases y
  simp only [beq_iff_eq, Sec.mk.injEq]
  repeat' split
  all_goals simp_all
theorem sec_guard : Tryz.prog.eqGuardType Tryz.prog.depth 49 = false := by kernel_rfl
theorem sec_neq (x y : Sec) : opBinAny Tryz.prog .neq 49 x.av y.av = some (.bool (!decide (x = y))) := by
  have := sec_eq x y
  unfold Sec.av at this ⊢
  simp only [opBinAny, opBin, opEq, sec_guard, if_true, this, Option.map_some]
theorem sec_eql (x y : Sec) : opBinAny Tryz.prog .eql 49 x.av y.av = some (.bool (decide (x = y))) := by
  have := sec_eq x y
  unfold Sec.av at this ⊢
  simp only [opBinAny, opBin, opEq, sec_guard, if_true, this, Option.map_some]

structure Wr where
  (vol start : Int)
  data : List Sec
  deriving DecidableEq
def Wr.av (w : Wr) : AV := .agg [I w.vol, I w.start, .lst (w.data.map Sec.av)]
structure Evn where
  (kind wr : Int)
  deriving DecidableEq
def Evn.av (x : Evn) : AV := .agg [I x.kind, I x.wr]
structure Hist where
  sizes : List Int
  ws : List Wr
  evs : List Evn
  deriving DecidableEq
def Hist.av (h : Hist) : AV := .agg [.lst (h.sizes.map I), .lst (h.ws.map Wr.av), .lst (h.evs.map Evn.av)]
def imgAV (im : List (List Sec)) : AV := .lst (im.map fun l => .lst (l.map Sec.av))

theorem wr_idf (w : Wr) : Idf w.av = True := eq_true (by simp only [Wr.av, IDF, sec_idf', and_tt, implies_true])
theorem evn_idf (c : Evn) : Idf c.av = True := eq_true (by simp only [Evn.av, IDF, and_tt, implies_true])
theorem hist_idf (f : Hist) : Idf f.av = True := eq_true (by simp only [Hist.av, IDF, wr_idf, evn_idf, and_tt, implies_true])
theorem img_idf (im : List (List Sec)) : Idf (imgAV im) = True := eq_true (by simp only [imgAV, IDF, sec_idf', and_tt, implies_true])
theorem wr_cells (w : Wr) : w.av.cells.length = 3 := rfl
theorem evn_cells (c : Evn) : c.av.cells.length = 2 := rfl
theorem hist_cells (f : Hist) : f.av.cells.length = 3 := rfl
theorem img_cells (im : List (List Sec)) : (imgAV im).cells = [imgAV im] := rfl
theorem wr_okc (w : Wr) : w.av.okc = true := rfl
theorem evn_okc (c : Evn) : c.av.okc = true := rfl
theorem hist_okc (f : Hist) : f.av.okc = true := rfl
theorem img_okc (im : List (List Sec)) : (imgAV im).okc = true := rfl
theorem wr_isAgg (w : Wr) : w.av.isAgg = true := rfl
theorem evn_isAgg (c : Evn) : c.av.isAgg = true := rfl
theorem hist_isAgg (f : Hist) : f.av.isAgg = true := rfl
theorem wr_cs (w : Wr) : w.av.cells = [I w.vol, I w.start, .lst (w.data.map Sec.av)] := rfl
theorem evn_cs (c : Evn) : c.av.cells = [I c.kind, I c.wr] := rfl
theorem hist_cs (h : Hist) : h.av.cells = [.lst (h.sizes.map I), .lst (h.ws.map Wr.av), .lst (h.evs.map Evn.av)] := rfl
theorem wr_ld (w : Wr) : loadV Tryz.prog 45 w.av 0 = some w.av := by simp only [Wr.av, ty45]; rfl
theorem evn_ld (c : Evn) : loadV Tryz.prog 69 c.av 0 = some c.av := by simp only [Evn.av, ty69]; rfl
theorem hist_ld (f : Hist) : loadV Tryz.prog 26 f.av 0 = some f.av := by simp only [Hist.av, ty26]; rfl

def Wr.ok (w : Wr) : Prop := w.data.length < 4611686018427387904
def Hist.ok (f : Hist) : Prop := f.sizes.length < 4611686018427387904 ∧ f.ws.length < 4611686018427387904 ∧ f.evs.length < 4611686018427387904 ∧ ∀ w ∈ f.ws, w.ok

theorem at_map {α : Type} {f : α → AV} {xs : List α} {i : Nat} (h : i < xs.length) : (xs.map f)[i]? = some (f xs[i]) := by simp [h]
theorem take_step {α : Type} {xs ys : List α} {i : Nat} (h1 : i < xs.length) (h2 : i < ys.length) (h : xs.take i = ys.take i) (he : xs[i] = ys[i]) : xs.take (i + 1) = ys.take (i + 1) := by
  rw [List.take_add_one, List.take_add_one, h, List.getElem?_eq_getElem h1, List.getElem?_eq_getElem h2, he]
theorem int_okc (xs : List Int) : ∀ e ∈ xs.map I, e.okc = true := fun e he => by
  obtain ⟨a, _, rfl⟩ := List.mem_map.1 he
  rfl
theorem bool_okc (xs : List Bool) : ∀ e ∈ xs.map B, e.okc = true := fun e he => by
  obtain ⟨a, _, rfl⟩ := List.mem_map.1 he
  rfl
theorem secs_okc (xs : List Sec) : ∀ e ∈ xs.map Sec.av, e.okc = true := fun e he => by
  obtain ⟨a, _, rfl⟩ := List.mem_map.1 he
  rfl
theorem wrs_okc (xs : List Wr) : ∀ e ∈ xs.map Wr.av, e.okc = true := fun e he => by
  obtain ⟨a, _, rfl⟩ := List.mem_map.1 he
  rfl
theorem EN : ((((type_of% @upd_nil) ∧ (type_of% @upd_cons)) ∧ ((type_of% @upd_nx) ∧ ((type_of% @get_del) ∧ (type_of% @nx_del)))) ∧ (((type_of% @sec_cells) ∧ (type_of% @sec_okc)) ∧ ((type_of% @sec_isAgg) ∧ ((type_of% @sec_ld) ∧ (type_of% @wr_cells))))) ∧ ((((type_of% @wr_okc) ∧ (type_of% @wr_isAgg)) ∧ ((type_of% @wr_ld) ∧ ((type_of% @evn_cells) ∧ (type_of% @evn_okc)))) ∧ (((type_of% @evn_isAgg) ∧ ((type_of% @evn_ld) ∧ (type_of% @hist_cells))) ∧ ((type_of% @hist_okc) ∧ ((type_of% @hist_isAgg) ∧ (type_of% @hist_ld))))) := ⟨⟨⟨⟨@upd_nil, @upd_cons⟩, ⟨@upd_nx, ⟨@get_del, @nx_del⟩⟩⟩, ⟨⟨@sec_cells, @sec_okc⟩, ⟨@sec_isAgg, ⟨@sec_ld, @wr_cells⟩⟩⟩⟩, ⟨⟨⟨@wr_okc, @wr_isAgg⟩, ⟨@wr_ld, ⟨@evn_cells, @evn_okc⟩⟩⟩, ⟨⟨@evn_isAgg, ⟨@evn_ld, @hist_cells⟩⟩, ⟨@hist_okc, ⟨@hist_isAgg, @hist_ld⟩⟩⟩⟩⟩
theorem IDS : type_of% @IDF ∧ type_of% @sec_idf' ∧ type_of% @wr_idf ∧ type_of% @evn_idf ∧ type_of% @hist_idf ∧ type_of% @img_idf ∧ type_of% @and_tt ∧ type_of% @implies_true.{0} ∧ type_of% @implies_true.{1} := ⟨@IDF, @sec_idf', @wr_idf, @evn_idf, @hist_idf, @img_idf, @and_tt, @implies_true.{0}, @implies_true.{1}⟩
theorem LN : type_of% @List.length_append.{0} ∧ type_of% @List.length_cons.{0} ∧ type_of% @List.length_nil.{0} := ⟨@List.length_append, @List.length_cons, @List.length_nil⟩
theorem SRO : type_of% @SR ∧ type_of% @Option.map_some.{0,0} ∧ type_of% @Option.bind_some.{0,0} := ⟨@SR, @Option.map_some, @Option.bind_some⟩
theorem SZ : type_of% @SX ∧ type_of% @SW ∧ type_of% @TY ∧ type_of% @EN ∧ type_of% @sv_w := ⟨@SX, @SW, @TY, @EN, @sv_w⟩
theorem PB : type_of% @decide_eq_true_eq ∧ type_of% @decide_eq_false_iff_not ∧ type_of% @beq_iff_eq.{0} ∧ type_of% @bne_iff_ne.{0} ∧ type_of% @beq_eq_false_iff_ne.{0} ∧ type_of% @bne_eq_false_iff_eq.{0} ∧ type_of% @Bool.not_eq_true' ∧ type_of% @Bool.not_eq_false' := ⟨@decide_eq_true_eq, @decide_eq_false_iff_not, @beq_iff_eq, @bne_iff_ne, @beq_eq_false_iff_ne, @bne_eq_false_iff_eq, @Bool.not_eq_true', @Bool.not_eq_false'⟩
end Go.Proofs.YtfdfkmcplhloaaaGreat
end

section
set_option linter.unusedSimpArgs false
set_option linter.unusedVariables false
namespace Go.Proofs.YtfdfkmcplhloaaaGreat
open Go.Proofs
open Nat renaming reduceEqDiff → nE, reduceAdd → nA, reduceLeDiff → nL, reduceLT → nT
theorem list2 {α : Type} {l : List α} (h : l.length = 2) : ∃ c0 c1, l = [c0, c1] := by
  rcases l with _ | ⟨c0, l⟩
  · simp at h
  rcases l with _ | ⟨c1, l⟩
  · simp at h
  rcases l with _ | ⟨c2, l⟩
  · exact ⟨c0, c1, rfl⟩
  · simp at h
theorem list3 {α : Type} {l : List α} (h : l.length = 3) : ∃ c0 c1 c2, l = [c0, c1, c2] := by
  rcases l with _ | ⟨c0, l⟩
  · simp at h
  rcases l with _ | ⟨c1, l⟩
  · simp at h
  rcases l with _ | ⟨c2, l⟩
  · simp at h
  rcases l with _ | ⟨c3, l⟩
  · exact ⟨c0, c1, c2, rfl⟩
  · simp at h
theorem list8 {α : Type} {l : List α} (h : l.length = 8) : ∃ c0 c1 c2 c3 c4 c5 c6 c7, l = [c0, c1, c2, c3, c4, c5, c6, c7] := by
  rcases l with _ | ⟨c0, l⟩
  · simp at h
  rcases l with _ | ⟨c1, l⟩
  · simp at h
  rcases l with _ | ⟨c2, l⟩
  · simp at h
  rcases l with _ | ⟨c3, l⟩
  · simp at h
  rcases l with _ | ⟨c4, l⟩
  · simp at h
  rcases l with _ | ⟨c5, l⟩
  · simp at h
  rcases l with _ | ⟨c6, l⟩
  · simp at h
  rcases l with _ | ⟨c7, l⟩
  · simp at h
  rcases l with _ | ⟨c8, l⟩
  · exact ⟨c0, c1, c2, c3, c4, c5, c6, c7, rfl⟩
  · simp at h
theorem take1 {α : Type} {cs : List α} {i : Nat} {c : α} (h : cs[i]? = some c) : (cs.drop i).take 1 = [c] := by
  obtain ⟨h1, rfl⟩ := List.getElem?_eq_some_iff.1 h
  rw [List.drop_eq_getElem_cons h1]
  rfl
theorem dec_sec : Dec Tryz.prog 49 Sec.av (fun _ => True) := by
  intro H enc w sp fuel cs x h hw
  obtain ⟨hl, he⟩ := array_elems Tryz.underlying49 h hw
  rw [cel49] at hl
  have g : ∀ i, i < 8 → ∀ c, cs[i]? = some c → ∃ n, VRelL (inX w) w [.int .u8 n] [c] ∧ c.oneCell' = true := by
    intro i hi c hc
    obtain ⟨n, y, hy, hyw⟩ := he i hi
    rw [cel5, Nat.mul_one, take1 hc] at hy
    obtain ⟨a, _, h1, h2⟩ := dec_int Tryz.underlying5 H enc w sp n _ _ hy hyw
    exact ⟨a, h1, h2 c (by simp)⟩
  obtain ⟨c0, c1, c2, c3, c4, c5, c6, c7, rfl⟩ := list8 hl
  obtain ⟨n0, r0, o0⟩ := g 0 (by omega) c0 rfl
  obtain ⟨n1, r1, o1⟩ := g 1 (by omega) c1 rfl
  obtain ⟨n2, r2, o2⟩ := g 2 (by omega) c2 rfl
  obtain ⟨n3, r3, o3⟩ := g 3 (by omega) c3 rfl
  obtain ⟨n4, r4, o4⟩ := g 4 (by omega) c4 rfl
  obtain ⟨n5, r5, o5⟩ := g 5 (by omega) c5 rfl
  obtain ⟨n6, r6, o6⟩ := g 6 (by omega) c6 rfl
  obtain ⟨n7, r7, o7⟩ := g 7 (by omega) c7 rfl
  refine ⟨⟨n0, n1, n2, n3, n4, n5, n6, n7⟩, trivial, r0.cons1 (r1.cons1 (r2.cons1 (r3.cons1 (r4.cons1 (r5.cons1 (r6.cons1 r7)))))), ?_⟩
  intro u hu
  simp only [List.mem_cons, List.not_mem_nil, or_false] at hu
  rcases hu with rfl | rfl | rfl | rfl | rfl | rfl | rfl | rfl <;> assumption
theorem len_of {n b : Nat} (h : n * b ≤ reachBytes) (hb : (b == 0) = false) : n < 4611686018427387904 := by
  have hb' : b ≠ 0 := by simpa using hb
  have h1 : n ≤ n * b := Nat.le_mul_of_pos_right n (by omega)
  have h2 : reachBytes < 4611686018427387904 := by decide
  omega
theorem dec_list {t e : TypeId} {α : Type} {f : α → AV} {good : α → Prop} (hb : (Tryz.prog.bytesOf e == 0) = false) (h : Dec Tryz.prog t (fun xs : List α => .lst (xs.map f)) (fun xs => xs.length * Tryz.prog.bytesOf e ≤ reachBytes ∧ ∀ a ∈ xs, good a)) : Dec Tryz.prog t (fun xs : List α => .lst (xs.map f)) (fun xs => xs.length < 4611686018427387904 ∧ ∀ a ∈ xs, good a) :=
  fun H enc w sp fuel cs x hx hw => by
    obtain ⟨a, h1, h2⟩ := h H enc w sp fuel cs x hx hw
    exact ⟨a, ⟨len_of h1.1 hb, h1.2⟩, h2⟩
theorem dec_ints : Dec Tryz.prog 22 (fun xs : List Int => .lst (xs.map I)) (fun xs => xs.length < 4611686018427387904 ∧ ∀ a ∈ xs, True) :=
  dec_list (e := 3) (by kernel_rfl) (dec_slice Tryz.underlying22 (dec_int Tryz.underlying3) (fun _ => by rw [cel3]; rfl) (fun _ => rfl) (by rw [cel3]; rfl))
theorem dec_secs : Dec Tryz.prog 43 (fun xs : List Sec => .lst (xs.map Sec.av)) (fun xs => xs.length < 4611686018427387904 ∧ ∀ a ∈ xs, True) :=
  dec_list (e := 49) (by kernel_rfl) (dec_slice Tryz.underlying43 dec_sec (fun _ => by rw [cel49]; rfl) (fun _ => rfl) (by rw [cel49]; rfl))
theorem dec_wr : Dec Tryz.prog 45 Wr.av Wr.ok := by
  intro H enc w sp fuel cs x h hw
  obtain ⟨hl, hf⟩ := struct_fields Tryz.underlying45 h hw
  rw [cel45] at hl
  obtain ⟨c0, c1, c2, rfl⟩ := list3 hl
  obtain ⟨n0, y0, h0, w0⟩ := hf 0 3 0 rfl
  obtain ⟨n1, y1, h1, w1⟩ := hf 1 3 1 rfl
  obtain ⟨n2, y2, h2, w2⟩ := hf 2 43 2 rfl
  simp only [cel3, cel43, List.drop_zero, List.drop_succ_cons, List.take_succ_cons, List.take_zero] at h0 h1 h2
  obtain ⟨a0, g0, r0, o0⟩ := dec_int Tryz.underlying3 H enc w sp n0 _ _ h0 w0
  obtain ⟨a1, g1, r1, o1⟩ := dec_int Tryz.underlying3 H enc w sp n1 _ _ h1 w1
  obtain ⟨a2, g2, r2, o2⟩ := dec_secs H enc w sp n2 _ _ h2 w2
  refine ⟨⟨a0, a1, a2⟩, g2.1, r0.cons1 (r1.cons1 r2), ?_⟩
  intro u hu
  simp only [List.mem_cons, List.not_mem_nil, or_false] at hu
  rcases hu with rfl | rfl | rfl
  · exact o0 _ (by simp)
  · exact o1 _ (by simp)
  · exact o2 _ (by simp)
theorem dec_wrs : Dec Tryz.prog 23 (fun xs : List Wr => .lst (xs.map Wr.av)) (fun xs => xs.length < 4611686018427387904 ∧ ∀ a ∈ xs, a.ok) :=
  dec_list (e := 45) (by kernel_rfl) (dec_slice Tryz.underlying23 dec_wr (fun _ => by rw [cel45]; rfl) (fun _ => rfl) (by rw [cel45]; rfl))
theorem dec_evn : Dec Tryz.prog 69 Evn.av (fun _ => True) := by
  intro H enc w sp fuel cs x h hw
  obtain ⟨hl, hf⟩ := struct_fields Tryz.underlying69 h hw
  rw [cel69] at hl
  obtain ⟨c0, c1, rfl⟩ := list2 hl
  obtain ⟨n0, y0, h0, w0⟩ := hf 0 3 0 rfl
  obtain ⟨n1, y1, h1, w1⟩ := hf 1 3 1 rfl
  simp only [cel3, List.drop_zero, List.drop_succ_cons, List.take_succ_cons, List.take_zero] at h0 h1
  obtain ⟨a0, g0, r0, o0⟩ := dec_int Tryz.underlying3 H enc w sp n0 _ _ h0 w0
  obtain ⟨a1, g1, r1, o1⟩ := dec_int Tryz.underlying3 H enc w sp n1 _ _ h1 w1
  refine ⟨⟨a0, a1⟩, trivial, r0.cons1 r1, ?_⟩
  intro u hu
  simp only [List.mem_cons, List.not_mem_nil, or_false] at hu
  rcases hu with rfl | rfl
  · exact o0 _ (by simp)
  · exact o1 _ (by simp)
theorem dec_evns : Dec Tryz.prog 24 (fun xs : List Evn => .lst (xs.map Evn.av)) (fun xs => xs.length < 4611686018427387904 ∧ ∀ a ∈ xs, True) :=
  dec_list (e := 69) (by kernel_rfl) (dec_slice Tryz.underlying24 dec_evn (fun _ => by rw [cel69]; rfl) (fun _ => rfl) (by rw [cel69]; rfl))
theorem dec_hist : Dec Tryz.prog 26 Hist.av Hist.ok := by
  intro H enc w sp fuel cs x h hw
  obtain ⟨hl, hf⟩ := struct_fields Tryz.underlying26 h hw
  rw [cel26] at hl
  obtain ⟨c0, c1, c2, rfl⟩ := list3 hl
  obtain ⟨n0, y0, h0, w0⟩ := hf 0 22 0 rfl
  obtain ⟨n1, y1, h1, w1⟩ := hf 1 23 1 rfl
  obtain ⟨n2, y2, h2, w2⟩ := hf 2 24 2 rfl
  simp only [cel22, cel23, cel24, List.drop_zero, List.drop_succ_cons, List.take_succ_cons, List.take_zero] at h0 h1 h2
  obtain ⟨a0, g0, r0, o0⟩ := dec_ints H enc w sp n0 _ _ h0 w0
  obtain ⟨a1, g1, r1, o1⟩ := dec_wrs H enc w sp n1 _ _ h1 w1
  obtain ⟨a2, g2, r2, o2⟩ := dec_evns H enc w sp n2 _ _ h2 w2
  refine ⟨⟨a0, a1, a2⟩, ⟨g0.1, g1.1, g2.1, g1.2⟩, r0.cons1 (r1.cons1 r2), ?_⟩
  intro u hu
  simp only [List.mem_cons, List.not_mem_nil, or_false] at hu
  rcases hu with rfl | rfl | rfl
  · exact o0 _ (by simp)
  · exact o1 _ (by simp)
  · exact o2 _ (by simp)
theorem dec_img : Dec Tryz.prog 28 imgAV (fun xs => xs.length < 4611686018427387904 ∧ ∀ a ∈ xs, a.length < 4611686018427387904 ∧ ∀ s ∈ a, True) :=
  dec_list (e := 43) (by kernel_rfl) (dec_slice (f := fun l : List Sec => .lst (l.map Sec.av)) Tryz.underlying28 dec_secs (fun _ => by rw [cel43]; exact congrArg List.length cells_lst) (fun _ => okc_lst) (by rw [cel43]; rfl))
theorem one_of_wide {P : Program} {t e : TypeId} {b : Nat} {w : World} {v : Value} (hu : P.underlying t = some (.slice e)) (h : Value.okWide P w .any b t v) : v.cells = #[v] := by
  obtain ⟨a0, len, cap, rfl⟩ := Go.WideShapes.okWide_slice hu h
  rfl
end Go.Proofs.YtfdfkmcplhloaaaGreat
end

section
set_option linter.unusedSimpArgs false
set_option linter.unusedVariables false
namespace Go.Proofs.YtfdfkmcplhloaaaGreat
open Go.Proofs
open Nat renaming reduceEqDiff → nE, reduceAdd → nA, reduceLeDiff → nL, reduceLT → nT
set_option maxRecDepth 10000
theorem c44 (xs ys : List Int) (hl : xs.length < 4611686018427387904) : Pu Tryz.prog (.fn (.func 44) [] []) [.lst (xs.map I), .lst (ys.map I)] (B (decide (xs = ys))) := by
 refine pu_func Tryz.func44 rfl (by kernel_rfl) (by show _ ≤ 26; simp only [LN]; decide) (by simp only [IDS]) (by simp only [IDS]) (by simp only [IDS]) ?_
 rw [Tryz.ntmps44]
 refine wpT_seq ?_
 refine wpT_region (by kernel_rfl) (fun K hK => ?_)
 simp only [↓SP, SZ, ↓reduceIte, reduceCtorEq, nE, nA, nL, nT]
 refine hK _ _ ?_
 clear hK K
 refine wpT_seq ?_
 refine wpT_seq ?_
 refine wpT_region (by kernel_rfl) (fun K hK => ?_)
 simp only [↓SP, SZ, ↓reduceIte, reduceCtorEq, nE, nA, nL, nT]
 refine hK _ _ ?_
 clear hK K
 refine wpT_if (by rfl) (fun hc10 => ?_) (fun hc10 => ?_)
 ·
  have p10 := hc10
  try simp only [PB] at p10
  have hne : xs ≠ ys := fun e => by subst e; simp at p10
  refine wpT_seq ?_
  refine wpT_region (by kernel_rfl) (fun K hK => ?_)
  simp only [↓SP, SZ, ↓reduceIte, reduceCtorEq, nE, nA, nL, nT, hc10]
  refine hK _ _ ?_
  clear hK K
  refine wpT_ret ⟨.inr rfl, ?_⟩
  show optK (resA _ _ _ [.tmp 4]) _
  simp only [SRO, ↓SP, SZ, ↓reduceIte, reduceCtorEq, nE, nA, nL, nT, hc10]
  refine Lend.eq ?_
  first
    | simp only [hne, decide_false]
    | simp only [he, decide_true]
 ·
  have p10 := hc10
  try simp only [PB] at p10
  have hlen : xs.length = ys.length := by omega
  refine wpT_skip ?_
  refine wpT_seq ?_
  refine wpT_seq ?_
  refine wpT_region (by kernel_rfl) (fun K hK => ?_)
  simp only [↓SP, SZ, ↓reduceIte, reduceCtorEq, nE, nA, nL, nT, hc10]
  refine hK _ _ ?_
  clear hK K
  refine wpT_block ?_
  refine wpT_loop ?_
  refine wpT_keep0 ?_
  refine wpT_ind (fun (i : Nat) tm' h' => (∃ m, h' = Hp.of [] m) ∧ tm' 0 = .lst (xs.map I) ∧ tm' 1 = .lst (ys.map I) ∧ tm' 5 = I i ∧ i ≤ xs.length ∧ xs.take i = ys.take i) (fun i => xs.length - i) ?_ 0 ⟨⟨_, rfl⟩, rfl, rfl, rfl, Nat.zero_le _, rfl⟩
  rintro i tm' _ ⟨⟨m, rfl⟩, e0, e1, e5, hi, hx⟩ IH
  refine wpT_inLoop ?_
  refine wpT_seq ?_
  refine wpT_seq ?_
  refine wpT_region (by kernel_rfl) (fun K hK => ?_)
  simp only [↓SP, SZ, ↓reduceIte, reduceCtorEq, nE, nA, nL, nT, e0, e5]
  refine hK _ _ ?_
  clear hK K
  refine wpT_if (by rfl) (fun hc14 => ?_) (fun hc14 => ?_)
  ·
   have p14 := hc14
   try simp only [PB] at p14
   have hlt : i < xs.length := by omega
   have hlt' : i < ys.length := by omega
   have hg := at_map (f := I) hlt
   have hg' := at_map (f := I) hlt'
   refine wpT_skip ?_
   refine wpT_seq ?_
   refine wpT_block ?_
   refine wpT_seq ?_
   refine wpT_drawn [] mixed (by kernel_rfl) (m := 9) rfl (fun K hK => ?_)
   simp only [↓SP, SZ, ↓reduceIte, reduceCtorEq, nE, nA, nL, nT, e0, e1, e5, hg, hg', hc14]
   refine hK _ _ ?_
   clear hK K
   refine wpT_if (by rfl) (fun hc25 => ?_) (fun hc25 => ?_)
   ·
    have p25 := hc25
    try simp only [PB] at p25
    have hne : xs ≠ ys := fun e => by subst e; simp at p25
    refine wpT_seq ?_
    refine wpT_region (by kernel_rfl) (fun K hK => ?_)
    simp only [↓SP, SZ, ↓reduceIte, reduceCtorEq, nE, nA, nL, nT, hc14, hc25]
    refine hK _ _ ?_
    clear hK K
    refine wpT_ret ⟨.inr rfl, ?_⟩
    show optK (resA _ _ _ [.tmp 4]) _
    simp only [SRO, ↓SP, SZ, ↓reduceIte, reduceCtorEq, nE, nA, nL, nT, hc14, hc25]
    refine Lend.eq ?_
    first
      | simp only [hne, decide_false]
      | simp only [he, decide_true]
   ·
    have p25 := hc25
    try simp only [PB] at p25
    have hx' := take_step hlt hlt' hx p25
    refine wpT_skip ?_
    refine wpT_inBlock ?_
    refine wpT_region (by kernel_rfl) (fun K hK => ?_)
    simp only [↓SP, SZ, ↓reduceIte, reduceCtorEq, nE, nA, nL, nT, e5, wrap64 (x := (i : Int) + 1) (by omega) (by omega), hc14, hc25]
    refine hK _ _ ?_
    clear hK K
    refine wpT_keep0 ?_
    refine IH (i + 1) _ _ (by omega) ⟨⟨_, rfl⟩, by simp only [↓SP, SZ, ↓reduceIte, reduceCtorEq, nE, nA, nL, nT, e0], by simp only [↓SP, SZ, ↓reduceIte, reduceCtorEq, nE, nA, nL, nT, e1], by simp only [↓SP, SZ, ↓reduceIte, reduceCtorEq, nE, nA, nL, nT, Int.natCast_add, Int.cast_ofNat_Int], by omega, hx'⟩
  ·
   have p14 := hc14
   try simp only [PB] at p14
   have he : xs = ys := by
     rw [List.take_of_length_le (by omega), List.take_of_length_le (by omega)] at hx
     exact hx
   refine wpT_exit rfl ?_
   refine wpT_seq ?_
   refine wpT_region (by kernel_rfl) (fun K hK => ?_)
   simp only [↓SP, SZ, ↓reduceIte, reduceCtorEq, nE, nA, nL, nT, hc14]
   refine hK _ _ ?_
   clear hK K
   refine wpT_ret ⟨.inr rfl, ?_⟩
   show optK (resA _ _ _ [.tmp 4]) _
   simp only [SRO, ↓SP, SZ, ↓reduceIte, reduceCtorEq, nE, nA, nL, nT, hc14]
   refine Lend.eq ?_
   first
     | simp only [hne, decide_false]
     | simp only [he, decide_true]
theorem c10 (xs ys : List Int) (hl : xs.length < 4611686018427387904) : Pu Tryz.prog (.fn (.func 10) [] []) [.lst (xs.map I), .lst (ys.map I)] (B (decide (xs = ys))) := by
 refine pu_func Tryz.func10 rfl (by kernel_rfl) (by show _ ≤ 26; simp only [LN]; decide) (by simp only [IDS]) (by simp only [IDS]) (by simp only [IDS]) ?_
 rw [Tryz.ntmps10]
 refine wpT_seq ?_
 refine wpT_region (by kernel_rfl) (fun K hK => ?_)
 simp only [↓SP, SZ, ↓reduceIte, reduceCtorEq, nE, nA, nL, nT]
 refine hK _ _ ?_
 clear hK K
 refine wpT_seq ?_
 refine wpT_seq ?_
 refine wpT_region (by kernel_rfl) (fun K hK => ?_)
 simp only [↓SP, SZ, ↓reduceIte, reduceCtorEq, nE, nA, nL, nT]
 refine hK _ _ ?_
 clear hK K
 refine wpT_if (by rfl) (fun hc10 => ?_) (fun hc10 => ?_)
 ·
  have p10 := hc10
  try simp only [PB] at p10
  have hne : xs ≠ ys := fun e => by subst e; simp at p10
  refine wpT_seq ?_
  refine wpT_region (by kernel_rfl) (fun K hK => ?_)
  simp only [↓SP, SZ, ↓reduceIte, reduceCtorEq, nE, nA, nL, nT, hc10]
  refine hK _ _ ?_
  clear hK K
  refine wpT_ret ⟨.inr rfl, ?_⟩
  show optK (resA _ _ _ [.tmp 4]) _
  simp only [SRO, ↓SP, SZ, ↓reduceIte, reduceCtorEq, nE, nA, nL, nT, hc10]
  refine Lend.eq ?_
  first
    | simp only [hne, decide_false]
    | simp only [he, decide_true]
 ·
  have p10 := hc10
  try simp only [PB] at p10
  have hlen : xs.length = ys.length := by omega
  refine wpT_skip ?_
  refine wpT_seq ?_
  refine wpT_seq ?_
  refine wpT_region (by kernel_rfl) (fun K hK => ?_)
  simp only [↓SP, SZ, ↓reduceIte, reduceCtorEq, nE, nA, nL, nT, hc10]
  refine hK _ _ ?_
  clear hK K
  refine wpT_block ?_
  refine wpT_loop ?_
  refine wpT_keep0 ?_
  refine wpT_ind (fun (i : Nat) tm' h' => (∃ m, h' = Hp.of [] m) ∧ tm' 0 = .lst (xs.map I) ∧ tm' 1 = .lst (ys.map I) ∧ tm' 12 = I xs.length ∧ tm' 13 = I i ∧ i ≤ xs.length ∧ xs.take i = ys.take i) (fun i => xs.length - i) ?_ 0 ⟨⟨_, rfl⟩, rfl, rfl, rfl, rfl, Nat.zero_le _, rfl⟩
  rintro i tm' _ ⟨⟨m, rfl⟩, e0, e1, e12, e13, hi, hx⟩ IH
  refine wpT_inLoop ?_
  refine wpT_seq ?_
  refine wpT_region (by kernel_rfl) (fun K hK => ?_)
  simp only [↓SP, SZ, ↓reduceIte, reduceCtorEq, nE, nA, nL, nT, e12, e13]
  refine hK _ _ ?_
  clear hK K
  refine wpT_seq ?_
  refine wpT_if (by rfl) (fun hc14 => ?_) (fun hc14 => ?_)
  ·
   have p14 := hc14
   try simp only [PB] at p14
   have hlt : i < xs.length := by omega
   have hlt' : i < ys.length := by omega
   have hg := at_map (f := I) hlt
   have hg' := at_map (f := I) hlt'
   refine wpT_skip ?_
   refine wpT_seq ?_
   refine wpT_block ?_
   refine wpT_seq ?_
   refine wpT_region (by kernel_rfl) (fun K hK => ?_)
   simp only [↓SP, SZ, ↓reduceIte, reduceCtorEq, nE, nA, nL, nT, e13, hc14]
   refine hK _ _ ?_
   clear hK K
   refine wpT_seq ?_
   refine wpT_drawn [] mixed (by kernel_rfl) (m := 9) rfl (fun K hK => ?_)
   simp only [↓SP, SZ, ↓reduceIte, reduceCtorEq, nE, nA, nL, nT, e0, e1, hg, hg', hc14]
   refine hK _ _ ?_
   clear hK K
   refine wpT_if (by rfl) (fun hc24 => ?_) (fun hc24 => ?_)
   ·
    have p24 := hc24
    try simp only [PB] at p24
    have hne : xs ≠ ys := fun e => by subst e; simp at p24
    refine wpT_seq ?_
    refine wpT_region (by kernel_rfl) (fun K hK => ?_)
    simp only [↓SP, SZ, ↓reduceIte, reduceCtorEq, nE, nA, nL, nT, hc14, hc24]
    refine hK _ _ ?_
    clear hK K
    refine wpT_ret ⟨.inr rfl, ?_⟩
    show optK (resA _ _ _ [.tmp 4]) _
    simp only [SRO, ↓SP, SZ, ↓reduceIte, reduceCtorEq, nE, nA, nL, nT, hc14, hc24]
    refine Lend.eq ?_
    first
      | simp only [hne, decide_false]
      | simp only [he, decide_true]
   ·
    have p24 := hc24
    try simp only [PB] at p24
    have hx' := take_step hlt hlt' hx p24
    refine wpT_skip ?_
    refine wpT_inBlock ?_
    refine wpT_region (by kernel_rfl) (fun K hK => ?_)
    simp only [↓SP, SZ, ↓reduceIte, reduceCtorEq, nE, nA, nL, nT, e13, wrap64 (x := (i : Int) + 1) (by omega) (by omega), hc14, hc24]
    refine hK _ _ ?_
    clear hK K
    refine wpT_keep0 ?_
    refine IH (i + 1) _ _ (by omega) ⟨⟨_, rfl⟩, by simp only [↓SP, SZ, ↓reduceIte, reduceCtorEq, nE, nA, nL, nT, e0], by simp only [↓SP, SZ, ↓reduceIte, reduceCtorEq, nE, nA, nL, nT, e1], by simp only [↓SP, SZ, ↓reduceIte, reduceCtorEq, nE, nA, nL, nT, e12], by simp only [↓SP, SZ, ↓reduceIte, reduceCtorEq, nE, nA, nL, nT, Int.natCast_add, Int.cast_ofNat_Int], by omega, hx'⟩
  ·
   have p14 := hc14
   try simp only [PB] at p14
   have he : xs = ys := by
     rw [List.take_of_length_le (by omega), List.take_of_length_le (by omega)] at hx
     exact hx
   refine wpT_exit rfl ?_
   refine wpT_seq ?_
   refine wpT_region (by kernel_rfl) (fun K hK => ?_)
   simp only [↓SP, SZ, ↓reduceIte, reduceCtorEq, nE, nA, nL, nT, hc14]
   refine hK _ _ ?_
   clear hK K
   refine wpT_ret ⟨.inr rfl, ?_⟩
   show optK (resA _ _ _ [.tmp 4]) _
   simp only [SRO, ↓SP, SZ, ↓reduceIte, reduceCtorEq, nE, nA, nL, nT, hc14]
   refine Lend.eq ?_
   first
     | simp only [hne, decide_false]
     | simp only [he, decide_true]
theorem c32 (xs ys : List Sec) (hl : xs.length < 4611686018427387904) : Pu Tryz.prog (.fn (.func 32) [] []) [.lst (xs.map Sec.av), .lst (ys.map Sec.av)] (B (decide (xs = ys))) := by
 refine pu_func Tryz.func32 rfl (by kernel_rfl) (by show _ ≤ 26; simp only [List.length_append, List.length_cons, List.length_nil]; decide) (by simp only [IDF]) (by simp only [IDF, and_tt, implies_true]) (by simp only [IDF, sec_idf', and_tt, implies_true]) ?_
 rw [Tryz.ntmps32]
 refine wpT_seq ?_
 refine wpT_region (by kernel_rfl) (fun K hK => ?_)
 simp only [↓SP, SZ, ↓reduceIte, reduceCtorEq, nE, nA, nL, nT, sec_neq]
 refine hK _ _ ?_
 clear hK K
 refine wpT_seq ?_
 refine wpT_seq ?_
 refine wpT_region (by kernel_rfl) (fun K hK => ?_)
 simp only [↓SP, SZ, ↓reduceIte, reduceCtorEq, nE, nA, nL, nT, sec_neq]
 refine hK _ _ ?_
 clear hK K
 refine wpT_if (by rfl) (fun hc10 => ?_) (fun hc10 => ?_)
 ·
  have p10 := hc10
  try simp only [PB] at p10
  have hne : xs ≠ ys := fun e => by subst e; simp at p10
  refine wpT_seq ?_
  refine wpT_region (by kernel_rfl) (fun K hK => ?_)
  simp only [↓SP, SZ, ↓reduceIte, reduceCtorEq, nE, nA, nL, nT, sec_neq, hc10]
  refine hK _ _ ?_
  clear hK K
  refine wpT_ret ⟨.inr rfl, ?_⟩
  show optK (resA _ _ _ [.tmp 4]) _
  simp only [SRO, ↓SP, SZ, ↓reduceIte, reduceCtorEq, nE, nA, nL, nT, sec_neq, hc10]
  refine Lend.eq ?_
  first
    | simp only [hne, decide_false]
    | simp only [he, decide_true]
 ·
  have p10 := hc10
  try simp only [PB] at p10
  have hlen : xs.length = ys.length := by omega
  refine wpT_skip ?_
  refine wpT_seq ?_
  refine wpT_seq ?_
  refine wpT_region (by kernel_rfl) (fun K hK => ?_)
  simp only [↓SP, SZ, ↓reduceIte, reduceCtorEq, nE, nA, nL, nT, sec_neq, hc10]
  refine hK _ _ ?_
  clear hK K
  refine wpT_block ?_
  refine wpT_loop ?_
  refine wpT_keep0 ?_
  refine wpT_ind (fun (i : Nat) tm' h' => (∃ m, h' = Hp.of [] m) ∧ tm' 0 = .lst (xs.map Sec.av) ∧ tm' 1 = .lst (ys.map Sec.av) ∧ tm' 5 = I i ∧ i ≤ xs.length ∧ xs.take i = ys.take i) (fun i => xs.length - i) ?_ 0 ⟨⟨_, rfl⟩, rfl, rfl, rfl, Nat.zero_le _, rfl⟩
  rintro i tm' _ ⟨⟨m, rfl⟩, e0, e1, e5, hi, hx⟩ IH
  refine wpT_inLoop ?_
  refine wpT_seq ?_
  refine wpT_seq ?_
  refine wpT_region (by kernel_rfl) (fun K hK => ?_)
  simp only [↓SP, SZ, ↓reduceIte, reduceCtorEq, nE, nA, nL, nT, sec_neq, e0, e5]
  refine hK _ _ ?_
  clear hK K
  refine wpT_if (by rfl) (fun hc14 => ?_) (fun hc14 => ?_)
  ·
   have p14 := hc14
   try simp only [PB] at p14
   have hlt : i < xs.length := by omega
   have hlt' : i < ys.length := by omega
   have hg := at_map (f := Sec.av) hlt
   have hg' := at_map (f := Sec.av) hlt'
   refine wpT_skip ?_
   refine wpT_seq ?_
   refine wpT_block ?_
   refine wpT_seq ?_
   refine wpT_drawn [] mixed (by kernel_rfl) (m := 9) rfl (fun K hK => ?_)
   simp only [↓SP, SZ, ↓reduceIte, reduceCtorEq, nE, nA, nL, nT, sec_neq, e0, e1, e5, hg, hg', hc14]
   refine hK _ _ ?_
   clear hK K
   refine wpT_if (by rfl) (fun hc25 => ?_) (fun hc25 => ?_)
   ·
    have p25 := hc25
    try simp only [PB] at p25
    have hne : xs ≠ ys := fun e => by subst e; simp at p25
    refine wpT_seq ?_
    refine wpT_region (by kernel_rfl) (fun K hK => ?_)
    simp only [↓SP, SZ, ↓reduceIte, reduceCtorEq, nE, nA, nL, nT, sec_neq, hc14, hc25]
    refine hK _ _ ?_
    clear hK K
    refine wpT_ret ⟨.inr rfl, ?_⟩
    show optK (resA _ _ _ [.tmp 4]) _
    simp only [SRO, ↓SP, SZ, ↓reduceIte, reduceCtorEq, nE, nA, nL, nT, sec_neq, hc14, hc25]
    refine Lend.eq ?_
    first
      | simp only [hne, decide_false]
      | simp only [he, decide_true]
   ·
    have p25 := hc25
    try simp only [PB] at p25
    have hx' := take_step hlt hlt' hx (by simpa using p25)
    refine wpT_skip ?_
    refine wpT_inBlock ?_
    refine wpT_region (by kernel_rfl) (fun K hK => ?_)
    simp only [↓SP, SZ, ↓reduceIte, reduceCtorEq, nE, nA, nL, nT, sec_neq, e5, wrap64 (x := (i : Int) + 1) (by omega) (by omega), hc14, hc25]
    refine hK _ _ ?_
    clear hK K
    refine wpT_keep0 ?_
    refine IH (i + 1) _ _ (by omega) ⟨⟨_, rfl⟩, by simp only [↓SP, SZ, ↓reduceIte, reduceCtorEq, nE, nA, nL, nT, sec_neq, e0], by simp only [↓SP, SZ, ↓reduceIte, reduceCtorEq, nE, nA, nL, nT, sec_neq, e1], by simp only [↓SP, SZ, ↓reduceIte, reduceCtorEq, nE, nA, nL, nT, sec_neq, Int.natCast_add, Int.cast_ofNat_Int], by omega, hx'⟩
  ·
   have p14 := hc14
   try simp only [PB] at p14
   have he : xs = ys := by
     rw [List.take_of_length_le (by omega), List.take_of_length_le (by omega)] at hx
     exact hx
   refine wpT_exit rfl ?_
   refine wpT_seq ?_
   refine wpT_region (by kernel_rfl) (fun K hK => ?_)
   simp only [↓SP, SZ, ↓reduceIte, reduceCtorEq, nE, nA, nL, nT, sec_neq, hc14]
   refine hK _ _ ?_
   clear hK K
   refine wpT_ret ⟨.inr rfl, ?_⟩
   show optK (resA _ _ _ [.tmp 4]) _
   simp only [SRO, ↓SP, SZ, ↓reduceIte, reduceCtorEq, nE, nA, nL, nT, sec_neq, hc14]
   refine Lend.eq ?_
   first
     | simp only [hne, decide_false]
     | simp only [he, decide_true]
end Go.Proofs.YtfdfkmcplhloaaaGreat
end

section
set_option linter.unusedSimpArgs false
set_option linter.unusedVariables false
namespace Go.Proofs.YtfdfkmcplhloaaaGreat
open Go.Proofs
open Nat renaming reduceEqDiff → nE, reduceAdd → nA, reduceLeDiff → nL, reduceLT → nT
set_option maxRecDepth 10000
theorem wr_ext {x y : Wr} (h1 : x.vol = y.vol) (h2 : x.start = y.start) (h3 : x.data = y.data) : x = y := by cases x; cases y; simp_all
theorem c19 (xs ys : List Wr) (hl : xs.length < 4611686018427387904) (hw : ∀ w ∈ xs, w.data.length < 4611686018427387904) : Pu Tryz.prog (.fn (.func 19) [] []) [.lst (xs.map Wr.av), .lst (ys.map Wr.av)] (B (decide (xs = ys))) := by
 refine pu_func Tryz.func19 rfl (by kernel_rfl) (by show _ ≤ 55; simp only [List.length_append, List.length_cons, List.length_nil]; decide) (by simp only [IDF]) (by simp only [IDF, and_tt, implies_true]) (by simp only [IDF, wr_idf, and_tt, implies_true]) ?_
 rw [Tryz.ntmps19]
 refine wpT_seq ?_
 refine wpT_region (by kernel_rfl) (fun K hK => ?_)
 simp only [↓SP, SZ, ↓reduceIte, reduceCtorEq, nE, nA, nL, nT, wr_cs]
 refine hK _ _ ?_
 clear hK K
 refine wpT_seq ?_
 refine wpT_seq ?_
 refine wpT_region (by kernel_rfl) (fun K hK => ?_)
 simp only [↓SP, SZ, ↓reduceIte, reduceCtorEq, nE, nA, nL, nT, wr_cs]
 refine hK _ _ ?_
 clear hK K
 refine wpT_if (by rfl) (fun hc10 => ?_) (fun hc10 => ?_)
 ·
  have p10 := hc10
  try simp only [PB] at p10
  have hne : xs ≠ ys := fun e => by subst e; simp at p10
  refine wpT_seq ?_
  refine wpT_region (by kernel_rfl) (fun K hK => ?_)
  simp only [↓SP, SZ, ↓reduceIte, reduceCtorEq, nE, nA, nL, nT, wr_cs, hc10]
  refine hK _ _ ?_
  clear hK K
  refine wpT_ret ⟨.inr rfl, ?_⟩
  show optK (resA _ _ _ [.tmp 4]) _
  simp only [SRO, ↓SP, SZ, ↓reduceIte, reduceCtorEq, nE, nA, nL, nT, wr_cs, hc10]
  refine Lend.eq ?_
  first
    | simp only [hne, decide_false]
    | simp only [he, decide_true]
 ·
  have p10 := hc10
  try simp only [PB] at p10
  have hlen : xs.length = ys.length := by omega
  refine wpT_skip ?_
  refine wpT_seq ?_
  refine wpT_seq ?_
  refine wpT_region (by kernel_rfl) (fun K hK => ?_)
  simp only [↓SP, SZ, ↓reduceIte, reduceCtorEq, nE, nA, nL, nT, wr_cs, hc10]
  refine hK _ _ ?_
  clear hK K
  refine wpT_block ?_
  refine wpT_loop ?_
  refine wpT_keep0 ?_
  refine wpT_ind (fun (i : Nat) tm' h' => (∃ m, h' = Hp.of [] m) ∧ tm' 0 = .lst (xs.map Wr.av) ∧ tm' 1 = .lst (ys.map Wr.av) ∧ tm' 5 = I i ∧ i ≤ xs.length ∧ xs.take i = ys.take i) (fun i => xs.length - i) ?_ 0 ⟨⟨_, rfl⟩, rfl, rfl, rfl, Nat.zero_le _, rfl⟩
  rintro i tm' _ ⟨⟨m, rfl⟩, e0, e1, e5, hi, hx⟩ IH
  refine wpT_inLoop ?_
  refine wpT_seq ?_
  refine wpT_seq ?_
  refine wpT_region (by kernel_rfl) (fun K hK => ?_)
  simp only [↓SP, SZ, ↓reduceIte, reduceCtorEq, nE, nA, nL, nT, wr_cs, e0, e5]
  refine hK _ _ ?_
  clear hK K
  refine wpT_if (by rfl) (fun hc14 => ?_) (fun hc14 => ?_)
  ·
   have p14 := hc14
   try simp only [PB] at p14
   have hlt : i < xs.length := by omega
   have hlt' : i < ys.length := by omega
   have hg := at_map (f := Wr.av) hlt
   have hg' := at_map (f := Wr.av) hlt'
   have hwi := hw xs[i] (List.getElem_mem hlt)
   refine wpT_skip ?_
   refine wpT_seq ?_
   refine wpT_block ?_
   refine wpT_seq ?_
   refine wpT_drawn [] mixed (by kernel_rfl) (m := 38) rfl (fun K hK => ?_)
   simp only [↓SP, SZ, ↓reduceIte, reduceCtorEq, nE, nA, nL, nT, wr_cs, e0, e1, e5, hg, hg', hc14]
   refine guardD_split (fun hg28 => ?_) (fun hg28 => ?_)
   ·
    have p28 := hg28
    try simp only [PB] at p28
    simp only [↓SP, SZ, ↓reduceIte, reduceCtorEq, nE, nA, nL, nT, wr_cs, e0, e1, e5, hg, hg', hc14, hg28]
    refine guardD_split (fun hg41 => ?_) (fun hg41 => ?_)
    ·
     have p41 := hg41
     try simp only [PB] at p41
     simp only [↓SP, SZ, ↓reduceIte, reduceCtorEq, nE, nA, nL, nT, wr_cs, e0, e1, e5, hg, hg', hc14, hg28, hg41]
     refine Pu.callD (c32 _ _ hwi) ?_
     simp only [↓SP, SZ, ↓reduceIte, reduceCtorEq, nE, nA, nL, nT, wr_cs, e0, e1, e5, hg, hg', hc14, hg28, hg41]
     refine hK _ _ ?_
     clear hK K
     refine wpT_if (by rfl) (fun hc54 => ?_) (fun hc54 => ?_)
     ·
      have p54 := hc54
      try simp only [PB] at p54
      have hne : xs ≠ ys := by
        rintro rfl
        simp_all
      refine wpT_seq ?_
      refine wpT_region (by kernel_rfl) (fun K hK => ?_)
      simp only [↓SP, SZ, ↓reduceIte, reduceCtorEq, nE, nA, nL, nT, wr_cs, hc14, hg28, hg41, hc54]
      refine hK _ _ ?_
      clear hK K
      refine wpT_ret ⟨.inr rfl, ?_⟩
      show optK (resA _ _ _ [.tmp 4]) _
      simp only [SRO, ↓SP, SZ, ↓reduceIte, reduceCtorEq, nE, nA, nL, nT, wr_cs, hc14, hg28, hg41, hc54]
      refine Lend.eq ?_
      first
        | simp only [hne, decide_false]
        | simp only [he, decide_true]
     ·
      have p54 := hc54
      try simp only [PB] at p54
      have hx' := take_step hlt hlt' hx (wr_ext (by simp_all) (by simp_all) (by simp_all))
      refine wpT_skip ?_
      refine wpT_inBlock ?_
      refine wpT_region (by kernel_rfl) (fun K hK => ?_)
      simp only [↓SP, SZ, ↓reduceIte, reduceCtorEq, nE, nA, nL, nT, wr_cs, e5, wrap64 (x := (i : Int) + 1) (by omega) (by omega), hc14, hg28, hg41, hc54]
      refine hK _ _ ?_
      clear hK K
      refine wpT_keep0 ?_
      refine IH (i + 1) _ _ (by omega) ⟨⟨_, rfl⟩, by simp only [↓SP, SZ, ↓reduceIte, reduceCtorEq, nE, nA, nL, nT, wr_cs, e0], by simp only [↓SP, SZ, ↓reduceIte, reduceCtorEq, nE, nA, nL, nT, wr_cs, e1], by simp only [↓SP, SZ, ↓reduceIte, reduceCtorEq, nE, nA, nL, nT, wr_cs, Int.natCast_add, Int.cast_ofNat_Int], by omega, hx'⟩
    ·
     simp only [Bool.not_true, Bool.not_false] at hg41
     have p41 := hg41
     try simp only [PB] at p41
     simp only [↓SP, SZ, ↓reduceIte, reduceCtorEq, nE, nA, nL, nT, wr_cs, e0, e1, e5, hg, hg', hc14, hg28, hg41]
     refine hK _ _ ?_
     clear hK K
     refine wpT_ifT (by simp only [↓SP, SZ, ↓reduceIte, reduceCtorEq, nE, nA, nL, nT, wr_cs, hc14, hg28, hg41]) ?_
     have hne : xs ≠ ys := by
       rintro rfl
       simp_all
     refine wpT_seq ?_
     refine wpT_region (by kernel_rfl) (fun K hK => ?_)
     simp only [↓SP, SZ, ↓reduceIte, reduceCtorEq, nE, nA, nL, nT, wr_cs, hc14, hg28, hg41]
     refine hK _ _ ?_
     clear hK K
     refine wpT_ret ⟨.inr rfl, ?_⟩
     show optK (resA _ _ _ [.tmp 4]) _
     simp only [SRO, ↓SP, SZ, ↓reduceIte, reduceCtorEq, nE, nA, nL, nT, wr_cs, hc14, hg28, hg41]
     refine Lend.eq ?_
     first
       | simp only [hne, decide_false]
       | simp only [he, decide_true]
   ·
    simp only [Bool.not_true, Bool.not_false] at hg28
    have p28 := hg28
    try simp only [PB] at p28
    simp only [↓SP, SZ, ↓reduceIte, reduceCtorEq, nE, nA, nL, nT, wr_cs, e0, e1, e5, hg, hg', hc14, hg28]
    refine hK _ _ ?_
    clear hK K
    refine wpT_ifT (by simp only [↓SP, SZ, ↓reduceIte, reduceCtorEq, nE, nA, nL, nT, wr_cs, hc14, hg28]) ?_
    have hne : xs ≠ ys := by
      rintro rfl
      simp_all
    refine wpT_seq ?_
    refine wpT_region (by kernel_rfl) (fun K hK => ?_)
    simp only [↓SP, SZ, ↓reduceIte, reduceCtorEq, nE, nA, nL, nT, wr_cs, hc14, hg28]
    refine hK _ _ ?_
    clear hK K
    refine wpT_ret ⟨.inr rfl, ?_⟩
    show optK (resA _ _ _ [.tmp 4]) _
    simp only [SRO, ↓SP, SZ, ↓reduceIte, reduceCtorEq, nE, nA, nL, nT, wr_cs, hc14, hg28]
    refine Lend.eq ?_
    first
      | simp only [hne, decide_false]
      | simp only [he, decide_true]
  ·
   have p14 := hc14
   try simp only [PB] at p14
   have he : xs = ys := by
     rw [List.take_of_length_le (by omega), List.take_of_length_le (by omega)] at hx
     exact hx
   refine wpT_exit rfl ?_
   refine wpT_seq ?_
   refine wpT_region (by kernel_rfl) (fun K hK => ?_)
   simp only [↓SP, SZ, ↓reduceIte, reduceCtorEq, nE, nA, nL, nT, wr_cs, hc14]
   refine hK _ _ ?_
   clear hK K
   refine wpT_ret ⟨.inr rfl, ?_⟩
   show optK (resA _ _ _ [.tmp 4]) _
   simp only [SRO, ↓SP, SZ, ↓reduceIte, reduceCtorEq, nE, nA, nL, nT, wr_cs, hc14]
   refine Lend.eq ?_
   first
     | simp only [hne, decide_false]
     | simp only [he, decide_true]
end Go.Proofs.YtfdfkmcplhloaaaGreat
end

section
set_option linter.unusedSimpArgs false
set_option linter.unusedVariables false
namespace Go.Proofs.YtfdfkmcplhloaaaGreat
open Go.Proofs
open Nat renaming reduceEqDiff → nE, reduceAdd → nA, reduceLeDiff → nL, reduceLT → nT
set_option maxRecDepth 10000
def szR : List Int → Int
  | [] => 0
  | x :: xs => if x < 1 ∨ x > 4096 then 2 else szR xs
def sizesE (xs : List Int) : Int := if xs.length < 1 ∨ xs.length > 8 then 6 else szR xs
def fitsE (sz : List Int) (w : Wr) : Int :=
  if w.vol < 0 ∨ w.vol ≥ sz.length then 7 else if w.data.length = 0 then 1 else
  if w.start < 0 ∨ w.start ≥ sz.getD w.vol.toNat 0 ∨ w.data.length > sz.getD w.vol.toNat 0 - w.start then 2 else 0
theorem szR_le : ∀ {xs : List Int}, szR xs = 0 → ∀ x ∈ xs, 1 ≤ x ∧ x ≤ 4096
  | [], _ => by simp
  | x :: xs, h => by
    rw [szR] at h
    split at h
    · simp at h
    · intro y hy
      rcases List.mem_cons.1 hy with rfl | hy
      · omega
      · exact szR_le h y hy
theorem sizesE_le {xs : List Int} (h : sizesE xs = 0) : ∀ x ∈ xs, 1 ≤ x ∧ x ≤ 4096 := by
  unfold sizesE at h
  split at h
  · simp at h
  · exact szR_le h
theorem c68 (xs : List Int) (hl : xs.length < 4611686018427387904) : Pu Tryz.prog (.fn (.func 68) [] []) [.lst (xs.map I)] (I (sizesE xs)) := by
 refine pu_func Tryz.func68 rfl (by kernel_rfl) (by show _ ≤ 30; simp only [LN]; decide) (by simp only [IDS]) (by simp only [IDS]) (by simp only [IDS]) ?_
 rw [Tryz.ntmps68]
 refine wpT_seq ?_
 refine wpT_region (by kernel_rfl) (fun K hK => ?_)
 simp only [↓SP, SZ, ↓reduceIte, reduceCtorEq, nE, nA, nL, nT]
 refine hK _ _ ?_
 clear hK K
 refine wpT_seq ?_
 refine wpT_seq ?_
 refine wpT_region (by kernel_rfl) (fun K hK => ?_)
 simp only [↓SP, SZ, ↓reduceIte, reduceCtorEq, nE, nA, nL, nT]
 refine guardO_split (fun hg7 => ?_) (fun hg7 => ?_)
 ·
  have p7 := hg7
  try simp only [PB] at p7
  simp only [↓SP, SZ, ↓reduceIte, reduceCtorEq, nE, nA, nL, nT, hg7]
  refine hK _ _ ?_
  clear hK K
  refine wpT_if (by rfl) (fun hc11 => ?_) (fun hc11 => ?_)
  ·
   have p11 := hc11
   try simp only [PB] at p11
   have hx : sizesE xs = 6 := if_pos (by omega)
   refine wpT_seq ?_
   refine wpT_region (by kernel_rfl) (fun K hK => ?_)
   simp only [↓SP, SZ, ↓reduceIte, reduceCtorEq, nE, nA, nL, nT, hg7, hc11]
   refine hK _ _ ?_
   clear hK K
   refine wpT_ret ⟨.inr rfl, ?_⟩
   show optK (resA _ _ _ [.tmp 2]) _
   simp only [SRO, ↓SP, SZ, ↓reduceIte, reduceCtorEq, nE, nA, nL, nT, hg7, hc11]
   refine Lend.eq ?_
   first
     | rw [← hx, if_pos (by omega)]
     | rw [← hx]
     | rw [hx]
  ·
   have p11 := hc11
   try simp only [PB] at p11
   have hx : sizesE xs = szR xs := if_neg (by omega)
   refine wpT_skip ?_
   refine wpT_seq ?_
   refine wpT_seq ?_
   refine wpT_region (by kernel_rfl) (fun K hK => ?_)
   simp only [↓SP, SZ, ↓reduceIte, reduceCtorEq, nE, nA, nL, nT, hg7, hc11]
   refine hK _ _ ?_
   clear hK K
   refine wpT_block ?_
   refine wpT_loop ?_
   refine wpT_keep0 ?_
   rw [hx]
   clear hx
   refine wpT_ind (fun (i : Nat) tm' h' => (∃ m, h' = Hp.of [] m) ∧ tm' 0 = .lst (xs.map I) ∧ tm' 3 = I i ∧ i ≤ xs.length ∧ szR (xs.drop i) = szR xs) (fun i => xs.length - i) ?_ 0 ⟨⟨_, rfl⟩, rfl, rfl, Nat.zero_le _, rfl⟩
   rintro i tm' _ ⟨⟨m, rfl⟩, e0, e3, hi, hx⟩ IH
   refine wpT_inLoop ?_
   refine wpT_seq ?_
   refine wpT_seq ?_
   refine wpT_region (by kernel_rfl) (fun K hK => ?_)
   simp only [↓SP, SZ, ↓reduceIte, reduceCtorEq, nE, nA, nL, nT, e0, e3]
   refine hK _ _ ?_
   clear hK K
   refine wpT_if (by rfl) (fun hc15 => ?_) (fun hc15 => ?_)
   ·
    have p15 := hc15
    try simp only [PB] at p15
    have hlt : i < xs.length := by omega
    have hg := at_map (f := I) hlt
    rw [List.drop_eq_getElem_cons hlt, szR] at hx
    refine wpT_skip ?_
    refine wpT_seq ?_
    refine wpT_block ?_
    refine wpT_seq ?_
    refine wpT_region (by kernel_rfl) (fun K hK => ?_)
    simp only [↓SP, SZ, ↓reduceIte, reduceCtorEq, nE, nA, nL, nT, e0, e3, hg, hc15]
    refine guardO_split (fun hg23 => ?_) (fun hg23 => ?_)
    ·
     have p23 := hg23
     try simp only [PB] at p23
     simp only [↓SP, SZ, ↓reduceIte, reduceCtorEq, nE, nA, nL, nT, e0, e3, hg, hc15, hg23]
     refine hK _ _ ?_
     clear hK K
     refine wpT_if (by rfl) (fun hc29 => ?_) (fun hc29 => ?_)
     ·
      have p29 := hc29
      try simp only [PB] at p29
      refine wpT_seq ?_
      refine wpT_region (by kernel_rfl) (fun K hK => ?_)
      simp only [↓SP, SZ, ↓reduceIte, reduceCtorEq, nE, nA, nL, nT, hc15, hg23, hc29]
      refine hK _ _ ?_
      clear hK K
      refine wpT_ret ⟨.inr rfl, ?_⟩
      show optK (resA _ _ _ [.tmp 2]) _
      simp only [SRO, ↓SP, SZ, ↓reduceIte, reduceCtorEq, nE, nA, nL, nT, hc15, hg23, hc29]
      refine Lend.eq ?_
      first
        | rw [← hx, if_pos (by omega)]
        | rw [← hx]
        | rw [hx]
     ·
      have p29 := hc29
      try simp only [PB] at p29
      refine wpT_skip ?_
      refine wpT_inBlock ?_
      refine wpT_region (by kernel_rfl) (fun K hK => ?_)
      simp only [↓SP, SZ, ↓reduceIte, reduceCtorEq, nE, nA, nL, nT, e3, wrap64 (x := (i : Int) + 1) (by omega) (by omega), hc15, hg23, hc29]
      refine hK _ _ ?_
      clear hK K
      rw [if_neg (by omega)] at hx
      refine wpT_keep0 ?_
      refine IH (i + 1) _ _ (by omega) ⟨⟨_, rfl⟩, by simp only [↓SP, SZ, ↓reduceIte, reduceCtorEq, nE, nA, nL, nT, e0], by simp only [↓SP, SZ, ↓reduceIte, reduceCtorEq, nE, nA, nL, nT, Int.natCast_add, Int.cast_ofNat_Int], by omega, hx⟩
    ·
     simp only [Bool.not_true, Bool.not_false] at hg23
     have p23 := hg23
     try simp only [PB] at p23
     simp only [↓SP, SZ, ↓reduceIte, reduceCtorEq, nE, nA, nL, nT, e0, e3, hg, hc15, hg23]
     refine hK _ _ ?_
     clear hK K
     refine wpT_ifT (by simp only [↓SP, SZ, ↓reduceIte, reduceCtorEq, nE, nA, nL, nT, hc15, hg23]) ?_
     refine wpT_seq ?_
     refine wpT_region (by kernel_rfl) (fun K hK => ?_)
     simp only [↓SP, SZ, ↓reduceIte, reduceCtorEq, nE, nA, nL, nT, hc15, hg23]
     refine hK _ _ ?_
     clear hK K
     refine wpT_ret ⟨.inr rfl, ?_⟩
     show optK (resA _ _ _ [.tmp 2]) _
     simp only [SRO, ↓SP, SZ, ↓reduceIte, reduceCtorEq, nE, nA, nL, nT, hc15, hg23]
     refine Lend.eq ?_
     first
       | rw [← hx, if_pos (by omega)]
       | rw [← hx]
       | rw [hx]
   ·
    have p15 := hc15
    try simp only [PB] at p15
    rw [List.drop_eq_nil_of_le (by omega), szR] at hx
    refine wpT_exit rfl ?_
    refine wpT_seq ?_
    refine wpT_region (by kernel_rfl) (fun K hK => ?_)
    simp only [↓SP, SZ, ↓reduceIte, reduceCtorEq, nE, nA, nL, nT, hc15]
    refine hK _ _ ?_
    clear hK K
    refine wpT_ret ⟨.inr rfl, ?_⟩
    show optK (resA _ _ _ [.tmp 2]) _
    simp only [SRO, ↓SP, SZ, ↓reduceIte, reduceCtorEq, nE, nA, nL, nT, hc15]
    refine Lend.eq ?_
    first
      | rw [← hx, if_pos (by omega)]
      | rw [← hx]
      | rw [hx]
 ·
  simp only [Bool.not_true, Bool.not_false] at hg7
  have p7 := hg7
  try simp only [PB] at p7
  simp only [↓SP, SZ, ↓reduceIte, reduceCtorEq, nE, nA, nL, nT, hg7]
  refine hK _ _ ?_
  clear hK K
  refine wpT_ifT (by simp only [↓SP, SZ, ↓reduceIte, reduceCtorEq, nE, nA, nL, nT, hg7]) ?_
  have hx : sizesE xs = 6 := if_pos (by omega)
  refine wpT_seq ?_
  refine wpT_region (by kernel_rfl) (fun K hK => ?_)
  simp only [↓SP, SZ, ↓reduceIte, reduceCtorEq, nE, nA, nL, nT, hg7]
  refine hK _ _ ?_
  clear hK K
  refine wpT_ret ⟨.inr rfl, ?_⟩
  show optK (resA _ _ _ [.tmp 2]) _
  simp only [SRO, ↓SP, SZ, ↓reduceIte, reduceCtorEq, nE, nA, nL, nT, hg7]
  refine Lend.eq ?_
  first
    | rw [← hx, if_pos (by omega)]
    | rw [← hx]
    | rw [hx]
theorem c69 (sz : List Int) (w : Wr) (hz : ∀ x ∈ sz, 1 ≤ x ∧ x ≤ 4096) : Pu Tryz.prog (.fn (.func 69) [] []) [.lst (sz.map I), w.av] (I (fitsE sz w)) := by
 refine pu_func Tryz.func69 rfl (by kernel_rfl) (by show _ ≤ 46; simp only [List.length_append, List.length_cons, List.length_nil]; decide) (by simp only [IDF]) (by simp only [IDF, and_tt, implies_true]) (by simp only [IDF, wr_idf, and_tt, implies_true]) ?_
 rw [Tryz.ntmps69]
 refine wpT_seq ?_
 refine wpT_region (by kernel_rfl) (fun K hK => ?_)
 simp only [↓SP, SZ, ↓reduceIte, reduceCtorEq, nE, nA, nL, nT, Wr.av]
 refine hK _ _ ?_
 clear hK K
 refine wpT_seq ?_
 refine wpT_seq ?_
 refine wpT_region (by kernel_rfl) (fun K hK => ?_)
 simp only [↓SP, SZ, ↓reduceIte, reduceCtorEq, nE, nA, nL, nT, Wr.av]
 refine guardO_split (fun hg8 => ?_) (fun hg8 => ?_)
 ·
  have p8 := hg8
  try simp only [PB] at p8
  simp only [↓SP, SZ, ↓reduceIte, reduceCtorEq, nE, nA, nL, nT, Wr.av, hg8]
  refine hK _ _ ?_
  clear hK K
  refine wpT_if (by rfl) (fun hc14 => ?_) (fun hc14 => ?_)
  ·
   have p14 := hc14
   try simp only [PB] at p14
   have hx : fitsE sz w = 7 := if_pos (by omega)
   refine wpT_seq ?_
   refine wpT_region (by kernel_rfl) (fun K hK => ?_)
   simp only [↓SP, SZ, ↓reduceIte, reduceCtorEq, nE, nA, nL, nT, Wr.av, hg8, hc14]
   refine hK _ _ ?_
   clear hK K
   refine wpT_ret ⟨.inr rfl, ?_⟩
   show optK (resA _ _ _ [.tmp 4]) _
   simp only [SRO, ↓SP, SZ, ↓reduceIte, reduceCtorEq, nE, nA, nL, nT, Wr.av, hg8, hc14]
   refine Lend.eq ?_
   first
     | rw [hx]
     | rw [hx0, if_pos (by omega)]
     | rw [hx0, if_neg (by omega), if_pos (by omega)]
     | rw [hx0, if_neg (by omega), if_neg (by omega)]
  ·
   have p14 := hc14
   try simp only [PB] at p14
   obtain ⟨n, hv⟩ := Int.eq_ofNat_of_zero_le (a := w.vol) (by omega)
   have hlt : n < sz.length := by omega
   have hg := at_map (f := I) hlt
   have hzn := hz _ (List.getElem_mem hlt)
   have hd : sz.getD w.vol.toNat 0 = sz[n] := by rw [hv]; simp [List.getD_eq_getElem?_getD, hlt]
   have hx0 : fitsE sz w = if w.data.length = 0 then 1 else if w.start < 0 ∨ w.start ≥ sz[n] ∨ w.data.length > sz[n] - w.start then 2 else 0 := by
     rw [fitsE, if_neg (by omega), hd]
   refine wpT_skip ?_
   refine wpT_seq ?_
   refine wpT_seq ?_
   refine wpT_region (by kernel_rfl) (fun K hK => ?_)
   simp only [↓SP, SZ, ↓reduceIte, reduceCtorEq, nE, nA, nL, nT, Wr.av, hg8, hc14]
   refine hK _ _ ?_
   clear hK K
   refine wpT_if (by rfl) (fun hc18 => ?_) (fun hc18 => ?_)
   ·
    have p18 := hc18
    try simp only [PB] at p18
    refine wpT_seq ?_
    refine wpT_region (by kernel_rfl) (fun K hK => ?_)
    simp only [↓SP, SZ, ↓reduceIte, reduceCtorEq, nE, nA, nL, nT, Wr.av, hg8, hc14, hc18]
    refine hK _ _ ?_
    clear hK K
    refine wpT_ret ⟨.inr rfl, ?_⟩
    show optK (resA _ _ _ [.tmp 4]) _
    simp only [SRO, ↓SP, SZ, ↓reduceIte, reduceCtorEq, nE, nA, nL, nT, Wr.av, hg8, hc14, hc18]
    refine Lend.eq ?_
    first
      | rw [hx]
      | rw [hx0, if_pos (by omega)]
      | rw [hx0, if_neg (by omega), if_pos (by omega)]
      | rw [hx0, if_neg (by omega), if_neg (by omega)]
   ·
    have p18 := hc18
    try simp only [PB] at p18
    refine wpT_skip ?_
    refine wpT_seq ?_
    refine wpT_seq ?_
    refine wpT_drawn [] mixed (by kernel_rfl) (m := 27) rfl (fun K hK => ?_)
    simp only [↓SP, SZ, ↓reduceIte, reduceCtorEq, nE, nA, nL, nT, Wr.av, hv, hg, hg8, hc14, hc18]
    refine guardD_split (fun hg22 => ?_) (fun hg22 => ?_)
    ·
     have p22 := hg22
     try simp only [PB] at p22
     simp only [↓SP, SZ, ↓reduceIte, reduceCtorEq, nE, nA, nL, nT, Wr.av, hv, hg, hg8, hc14, hc18, hg22]
     refine guardD_split (fun hg32 => ?_) (fun hg32 => ?_)
     ·
      have p32 := hg32
      try simp only [PB] at p32
      have hw2 : IntKind.i64.wrap (sz[n] - w.start) = sz[n] - w.start := wrap64 (by omega) (by omega)
      simp only [↓SP, SZ, ↓reduceIte, reduceCtorEq, nE, nA, nL, nT, Wr.av, hv, hg, hg8, hc14, hc18, hg22, hw2, hg32]
      refine hK _ _ ?_
      clear hK K
      refine wpT_if (by rfl) (fun hc45 => ?_) (fun hc45 => ?_)
      ·
       have p45 := hc45
       try simp only [PB] at p45
       refine wpT_seq ?_
       refine wpT_region (by kernel_rfl) (fun K hK => ?_)
       simp only [↓SP, SZ, ↓reduceIte, reduceCtorEq, nE, nA, nL, nT, Wr.av, hg8, hc14, hc18, hg22, hw2, hg32, hc45]
       refine hK _ _ ?_
       clear hK K
       refine wpT_ret ⟨.inr rfl, ?_⟩
       show optK (resA _ _ _ [.tmp 4]) _
       simp only [SRO, ↓SP, SZ, ↓reduceIte, reduceCtorEq, nE, nA, nL, nT, Wr.av, hg8, hc14, hc18, hg22, hw2, hg32, hc45]
       refine Lend.eq ?_
       first
         | rw [hx]
         | rw [hx0, if_pos (by omega)]
         | rw [hx0, if_neg (by omega), if_pos (by omega)]
         | rw [hx0, if_neg (by omega), if_neg (by omega)]
      ·
       have p45 := hc45
       try simp only [PB] at p45
       refine wpT_skip ?_
       refine wpT_seq ?_
       refine wpT_region (by kernel_rfl) (fun K hK => ?_)
       simp only [↓SP, SZ, ↓reduceIte, reduceCtorEq, nE, nA, nL, nT, Wr.av, hg8, hc14, hc18, hg22, hw2, hg32, hc45]
       refine hK _ _ ?_
       clear hK K
       refine wpT_ret ⟨.inr rfl, ?_⟩
       show optK (resA _ _ _ [.tmp 4]) _
       simp only [SRO, ↓SP, SZ, ↓reduceIte, reduceCtorEq, nE, nA, nL, nT, Wr.av, hg8, hc14, hc18, hg22, hw2, hg32, hc45]
       refine Lend.eq ?_
       first
         | rw [hx]
         | rw [hx0, if_pos (by omega)]
         | rw [hx0, if_neg (by omega), if_pos (by omega)]
         | rw [hx0, if_neg (by omega), if_neg (by omega)]
     ·
      simp only [Bool.not_true, Bool.not_false] at hg32
      have p32 := hg32
      try simp only [PB] at p32
      simp only [↓SP, SZ, ↓reduceIte, reduceCtorEq, nE, nA, nL, nT, Wr.av, hv, hg, hg8, hc14, hc18, hg22, hg32]
      refine hK _ _ ?_
      clear hK K
      refine wpT_ifT (by simp only [↓SP, SZ, ↓reduceIte, reduceCtorEq, nE, nA, nL, nT, Wr.av, hg8, hc14, hc18, hg22, hg32]) ?_
      refine wpT_seq ?_
      refine wpT_region (by kernel_rfl) (fun K hK => ?_)
      simp only [↓SP, SZ, ↓reduceIte, reduceCtorEq, nE, nA, nL, nT, Wr.av, hg8, hc14, hc18, hg22, hg32]
      refine hK _ _ ?_
      clear hK K
      refine wpT_ret ⟨.inr rfl, ?_⟩
      show optK (resA _ _ _ [.tmp 4]) _
      simp only [SRO, ↓SP, SZ, ↓reduceIte, reduceCtorEq, nE, nA, nL, nT, Wr.av, hg8, hc14, hc18, hg22, hg32]
      refine Lend.eq ?_
      first
        | rw [hx]
        | rw [hx0, if_pos (by omega)]
        | rw [hx0, if_neg (by omega), if_pos (by omega)]
        | rw [hx0, if_neg (by omega), if_neg (by omega)]
    ·
     simp only [Bool.not_true, Bool.not_false] at hg22
     have p22 := hg22
     try simp only [PB] at p22
     simp only [↓SP, SZ, ↓reduceIte, reduceCtorEq, nE, nA, nL, nT, Wr.av, hv, hg, hg8, hc14, hc18, hg22]
     refine hK _ _ ?_
     clear hK K
     refine wpT_ifT (by simp only [↓SP, SZ, ↓reduceIte, reduceCtorEq, nE, nA, nL, nT, Wr.av, hg8, hc14, hc18, hg22]) ?_
     refine wpT_seq ?_
     refine wpT_region (by kernel_rfl) (fun K hK => ?_)
     simp only [↓SP, SZ, ↓reduceIte, reduceCtorEq, nE, nA, nL, nT, Wr.av, hg8, hc14, hc18, hg22]
     refine hK _ _ ?_
     clear hK K
     refine wpT_ret ⟨.inr rfl, ?_⟩
     show optK (resA _ _ _ [.tmp 4]) _
     simp only [SRO, ↓SP, SZ, ↓reduceIte, reduceCtorEq, nE, nA, nL, nT, Wr.av, hg8, hc14, hc18, hg22]
     refine Lend.eq ?_
     first
       | rw [hx]
       | rw [hx0, if_pos (by omega)]
       | rw [hx0, if_neg (by omega), if_pos (by omega)]
       | rw [hx0, if_neg (by omega), if_neg (by omega)]
 ·
  simp only [Bool.not_true, Bool.not_false] at hg8
  have p8 := hg8
  try simp only [PB] at p8
  simp only [↓SP, SZ, ↓reduceIte, reduceCtorEq, nE, nA, nL, nT, Wr.av, hg8]
  refine hK _ _ ?_
  clear hK K
  refine wpT_ifT (by simp only [↓SP, SZ, ↓reduceIte, reduceCtorEq, nE, nA, nL, nT, Wr.av, hg8]) ?_
  have hx : fitsE sz w = 7 := if_pos (by omega)
  refine wpT_seq ?_
  refine wpT_region (by kernel_rfl) (fun K hK => ?_)
  simp only [↓SP, SZ, ↓reduceIte, reduceCtorEq, nE, nA, nL, nT, Wr.av, hg8]
  refine hK _ _ ?_
  clear hK K
  refine wpT_ret ⟨.inr rfl, ?_⟩
  show optK (resA _ _ _ [.tmp 4]) _
  simp only [SRO, ↓SP, SZ, ↓reduceIte, reduceCtorEq, nE, nA, nL, nT, Wr.av, hg8]
  refine Lend.eq ?_
  first
    | rw [hx]
    | rw [hx0, if_pos (by omega)]
    | rw [hx0, if_neg (by omega), if_pos (by omega)]
    | rw [hx0, if_neg (by omega), if_neg (by omega)]
end Go.Proofs.YtfdfkmcplhloaaaGreat
end

section
set_option linter.unusedSimpArgs false
set_option linter.unusedVariables false
namespace Go.Proofs.YtfdfkmcplhloaaaGreat
open Go.Proofs
open Nat renaming reduceEqDiff → nE, reduceAdd → nA, reduceLeDiff → nL, reduceLT → nT
set_option maxRecDepth 10000
theorem msO_ok (by' : Nat) (n k : Int) (h0 : 0 ≤ n) (h1 : n ≤ k) (h2 : k ≤ 9223372036854775807) (h3 : (by' : Int) * k ≤ 281474976710656) (e c : Nat) (z : AV) (nid : Nat) : msO e c by' z n k nid = some (.sl nid n.toNat 0 n.toNat, .new (.arr e c (List.replicate n.toNat z))) := if_pos ⟨h0, h1, h2, h3⟩
def idxP {α : Type} (p : α → Bool) : Nat → List α → Int
  | _, [] => -1
  | i, x :: xs => if p x = true then i else idxP p (i + 1) xs
theorem idxP_ge {α : Type} (p : α → Bool) : ∀ (i : Nat) (xs : List α), (decide (idxP p i xs ≥ 0)) = xs.any p
  | _, [] => by simp [idxP]
  | i, x :: xs => by
    rw [idxP]
    split
    · simp_all
    · rw [idxP_ge p (i + 1) xs]; simp_all
theorem c98 (xs : List Int) (fv : AV) (p : Int → Bool) (hl : xs.length < 4611686018427387904) (hfv : Idf fv) (hp : ∀ x ∈ xs, Pu Tryz.prog fv [I x] (B (p x))) : Pu Tryz.prog (.fn (.func 98) [] []) [.lst (xs.map I), fv] (I (idxP p 0 xs)) := by
 refine pu_func Tryz.func98 rfl (by kernel_rfl) (by show _ ≤ 19; simp only [List.length_append, List.length_cons, List.length_nil]; decide) (by simp only [IDF]) (by simp only [IDF, and_tt, implies_true]) (by simp only [IDF, eq_true hfv, and_tt, implies_true]) ?_
 rw [Tryz.ntmps98]
 refine wpT_seq ?_
 refine wpT_region (by kernel_rfl) (fun K hK => ?_)
 simp only [↓SP, SZ, ↓reduceIte, reduceCtorEq, nE, nA, nL, nT]
 refine hK _ _ ?_
 clear hK K
 refine wpT_seq ?_
 refine wpT_seq ?_
 refine wpT_region (by kernel_rfl) (fun K hK => ?_)
 simp only [↓SP, SZ, ↓reduceIte, reduceCtorEq, nE, nA, nL, nT]
 refine hK _ _ ?_
 clear hK K
 refine wpT_block ?_
 refine wpT_loop ?_
 refine wpT_keep0 ?_
 refine wpT_ind (fun (i : Nat) tm' h' => (∃ m, h' = Hp.of [] m) ∧ tm' 0 = .lst (xs.map I) ∧ tm' 1 = fv ∧ tm' 7 = I xs.length ∧ tm' 8 = I i ∧ i ≤ xs.length ∧ idxP p i (xs.drop i) = idxP p 0 xs) (fun i => xs.length - i) ?_ 0 ⟨⟨_, rfl⟩, rfl, rfl, rfl, rfl, by omega, rfl⟩
 rintro i tm' _ ⟨⟨m, rfl⟩, e0, e1, e7, e8, hi, hx⟩ IH
 refine wpT_inLoop ?_
 refine wpT_seq ?_
 refine wpT_region (by kernel_rfl) (fun K hK => ?_)
 simp only [↓SP, SZ, ↓reduceIte, reduceCtorEq, nE, nA, nL, nT, e7, e8]
 refine hK _ _ ?_
 clear hK K
 refine wpT_seq ?_
 refine wpT_if (by rfl) (fun hc9 => ?_) (fun hc9 => ?_)
 ·
  have p9 := hc9
  try simp only [PB] at p9
  have hlt : i < xs.length := by omega
  have hg := at_map (f := I) hlt
  rw [List.drop_eq_getElem_cons hlt, idxP] at hx
  refine wpT_skip ?_
  refine wpT_seq ?_
  refine wpT_block ?_
  refine wpT_seq ?_
  refine wpT_region (by kernel_rfl) (fun K hK => ?_)
  simp only [↓SP, SZ, ↓reduceIte, reduceCtorEq, nE, nA, nL, nT, e8, hc9]
  refine hK _ _ ?_
  clear hK K
  refine wpT_seq ?_
  refine wpT_region (by kernel_rfl) (fun K hK => ?_)
  simp only [↓SP, SZ, ↓reduceIte, reduceCtorEq, nE, nA, nL, nT, e0, e1, hg, hc9]
  refine Pu.call (hp _ (List.getElem_mem hlt)) ?_
  simp only [↓SP, SZ, ↓reduceIte, reduceCtorEq, nE, nA, nL, nT, e0, e1, hg, hc9]
  refine hK _ _ ?_
  clear hK K
  refine wpT_if (by rfl) (fun hc16 => ?_) (fun hc16 => ?_)
  ·
   have p16 := hc16
   try simp only [PB] at p16
   rw [if_pos hc16] at hx
   refine wpT_seq ?_
   refine wpT_region (by kernel_rfl) (fun K hK => ?_)
   simp only [↓SP, SZ, ↓reduceIte, reduceCtorEq, nE, nA, nL, nT, hc9, hc16]
   refine hK _ _ ?_
   clear hK K
   refine wpT_ret ⟨.inr rfl, ?_⟩
   show optK (resA _ _ _ [.tmp 4]) _
   simp only [SRO, ↓SP, SZ, ↓reduceIte, reduceCtorEq, nE, nA, nL, nT, hc9, hc16]
   refine Lend.eq ?_
   rw [← hx]
  ·
   have p16 := hc16
   try simp only [PB] at p16
   rw [if_neg (by simp [hc16])] at hx
   refine wpT_skip ?_
   refine wpT_inBlock ?_
   refine wpT_region (by kernel_rfl) (fun K hK => ?_)
   simp only [↓SP, SZ, ↓reduceIte, reduceCtorEq, nE, nA, nL, nT, e8, wrap64 (x := (i : Int) + 1) (by omega) (by omega), hc9, hc16]
   refine hK _ _ ?_
   clear hK K
   refine wpT_keep0 ?_
   refine IH (i + 1) _ _ (by omega) ⟨⟨_, rfl⟩, by simp only [↓SP, SZ, ↓reduceIte, reduceCtorEq, nE, nA, nL, nT, e0], by simp only [↓SP, SZ, ↓reduceIte, reduceCtorEq, nE, nA, nL, nT, e1], by simp only [↓SP, SZ, ↓reduceIte, reduceCtorEq, nE, nA, nL, nT, e7], by simp only [↓SP, SZ, ↓reduceIte, reduceCtorEq, nE, nA, nL, nT, Int.natCast_add, Int.cast_ofNat_Int], by omega, hx⟩
 ·
  have p9 := hc9
  try simp only [PB] at p9
  rw [List.drop_eq_nil_of_le (by omega), idxP] at hx
  refine wpT_exit rfl ?_
  refine wpT_seq ?_
  refine wpT_region (by kernel_rfl) (fun K hK => ?_)
  simp only [↓SP, SZ, ↓reduceIte, reduceCtorEq, nE, nA, nL, nT, hc9]
  refine hK _ _ ?_
  clear hK K
  refine wpT_ret ⟨.inr rfl, ?_⟩
  show optK (resA _ _ _ [.tmp 4]) _
  simp only [SRO, ↓SP, SZ, ↓reduceIte, reduceCtorEq, nE, nA, nL, nT, hc9]
  refine Lend.eq ?_
  rw [← hx]
theorem c84 (xs : List Int) (fv : AV) (p : Int → Bool) (hl : xs.length < 4611686018427387904) (hfv : Idf fv) (hp : ∀ x ∈ xs, Pu Tryz.prog fv [I x] (B (p x))) : Pu Tryz.prog (.fn (.func 84) [] []) [.lst (xs.map I), fv] (B (xs.any p)) := by
 refine pu_func Tryz.func84 rfl (by kernel_rfl) (by show _ ≤ 9; simp only [List.length_append, List.length_cons, List.length_nil]; decide) (by simp only [IDF]) (by simp only [IDF, and_tt, implies_true]) (by simp only [IDF, eq_true hfv, and_tt, implies_true]) ?_
 rw [Tryz.ntmps84]
 refine wpT_seq ?_
 refine wpT_region (by kernel_rfl) (fun K hK => ?_)
 simp only [↓SP, SZ, ↓reduceIte, reduceCtorEq, nE, nA, nL, nT]
 refine hK _ _ ?_
 clear hK K
 refine wpT_seq ?_
 refine wpT_region (by kernel_rfl) (fun K hK => ?_)
 simp only [↓SP, SZ, ↓reduceIte, reduceCtorEq, nE, nA, nL, nT, idxP_ge]
 refine Pu.call (c98 xs fv p hl hfv hp) ?_
 simp only [↓SP, SZ, ↓reduceIte, reduceCtorEq, nE, nA, nL, nT, idxP_ge]
 refine hK _ _ ?_
 clear hK K
 refine wpT_ret ⟨.inr rfl, ?_⟩
 show optK (resA _ _ _ [.tmp 4]) _
 simp only [SRO, ↓SP, SZ, ↓reduceIte, reduceCtorEq, nE, nA, nL, nT]
 exact .refl _
theorem c85 (n : Int) : Pu Tryz.prog (.fn (.func 85) [] []) [I n] (B (decide (n < 1 ∨ n > 4096))) := by
 refine pu_func Tryz.func85 rfl (by kernel_rfl) (by show _ ≤ 9; simp only [LN]; decide) (by simp only [IDS]) (by simp only [IDS]) (by simp only [IDS]) ?_
 rw [Tryz.ntmps85]
 refine wpT_seq ?_
 refine wpT_region (by kernel_rfl) (fun K hK => ?_)
 simp only [↓SP, SZ, ↓reduceIte, reduceCtorEq, nE, nA, nL, nT]
 refine hK _ _ ?_
 clear hK K
 refine wpT_seq ?_
 refine wpT_region (by kernel_rfl) (fun K hK => ?_)
 simp only [↓SP, SZ, ↓reduceIte, reduceCtorEq, nE, nA, nL, nT]
 refine guardO_split (fun hg5 => ?_) (fun hg5 => ?_)
 ·
  have p5 := hg5
  try simp only [PB] at p5
  simp only [↓SP, SZ, ↓reduceIte, reduceCtorEq, nE, nA, nL, nT, hg5]
  refine hK _ _ ?_
  clear hK K
  refine wpT_ret ⟨.inr rfl, ?_⟩
  show optK (resA _ _ _ [.tmp 2]) _
  simp only [SRO, ↓SP, SZ, ↓reduceIte, reduceCtorEq, nE, nA, nL, nT, hg5]
  refine Lend.eq ?_
  congr 1
  first
    | exact (decide_eq_true (by omega)).symm
    | exact decide_eq_decide.2 (by omega)
 ·
  simp only [Bool.not_true, Bool.not_false] at hg5
  have p5 := hg5
  try simp only [PB] at p5
  simp only [↓SP, SZ, ↓reduceIte, reduceCtorEq, nE, nA, nL, nT, hg5]
  refine hK _ _ ?_
  clear hK K
  refine wpT_ret ⟨.inr rfl, ?_⟩
  show optK (resA _ _ _ [.tmp 2]) _
  simp only [SRO, ↓SP, SZ, ↓reduceIte, reduceCtorEq, nE, nA, nL, nT, hg5]
  refine Lend.eq ?_
  congr 1
  first
    | exact (decide_eq_true (by omega)).symm
    | exact decide_eq_decide.2 (by omega)
theorem szR_any : ∀ xs : List Int, szR xs = if (xs.any fun n => decide (n < 1 ∨ n > 4096)) = true then 2 else 0
  | [] => rfl
  | x :: xs => by
    rw [szR, szR_any xs]
    by_cases h : x < 1 ∨ x > 4096
    · rw [if_pos h, if_pos (by simp [h])]
    · rw [if_neg h]; simp only [List.any_cons, decide_eq_false h, Bool.false_or]
theorem c62 (xs : List Int) (hl : xs.length < 4611686018427387904) : Pu Tryz.prog (.fn (.func 62) [] []) [.lst (xs.map I)] (I (sizesE xs)) := by
 refine pu_func Tryz.func62 rfl (by kernel_rfl) (by show _ ≤ 13; simp only [LN]; decide) (by simp only [IDS]) (by simp only [IDS]) (by simp only [IDS]) ?_
 rw [Tryz.ntmps62]
 refine wpT_seq ?_
 refine wpT_region (by kernel_rfl) (fun K hK => ?_)
 simp only [↓SP, SZ, ↓reduceIte, reduceCtorEq, nE, nA, nL, nT]
 refine hK _ _ ?_
 clear hK K
 refine wpT_seq ?_
 refine wpT_seq ?_
 refine wpT_region (by kernel_rfl) (fun K hK => ?_)
 simp only [↓SP, SZ, ↓reduceIte, reduceCtorEq, nE, nA, nL, nT]
 refine guardO_split (fun hg6 => ?_) (fun hg6 => ?_)
 ·
  have p6 := hg6
  try simp only [PB] at p6
  simp only [↓SP, SZ, ↓reduceIte, reduceCtorEq, nE, nA, nL, nT, hg6]
  refine hK _ _ ?_
  clear hK K
  refine wpT_if (by rfl) (fun hc10 => ?_) (fun hc10 => ?_)
  ·
   have p10 := hc10
   try simp only [PB] at p10
   have hx : sizesE xs = 6 := if_pos (by omega)
   refine wpT_seq ?_
   refine wpT_region (by kernel_rfl) (fun K hK => ?_)
   simp only [↓SP, SZ, ↓reduceIte, reduceCtorEq, nE, nA, nL, nT, hg6, hc10]
   refine hK _ _ ?_
   clear hK K
   refine wpT_ret ⟨.inr rfl, ?_⟩
   show optK (resA _ _ _ [.tmp 2]) _
   simp only [SRO, ↓SP, SZ, ↓reduceIte, reduceCtorEq, nE, nA, nL, nT, hg6, hc10]
   refine Lend.eq ?_
   rw [hx]
  ·
   have p10 := hc10
   try simp only [PB] at p10
   have hx : sizesE xs = szR xs := if_neg (by omega)
   rw [szR_any] at hx
   refine wpT_skip ?_
   refine wpT_seq ?_
   refine wpT_seq ?_
   refine wpT_region (by kernel_rfl) (fun K hK => ?_)
   simp only [↓SP, SZ, ↓reduceIte, reduceCtorEq, nE, nA, nL, nT, hg6, hc10]
   refine Pu.call (c84 xs _ _ hl (by simp only [IDF, and_tt]) (fun x _ => c85 x)) ?_
   simp only [↓SP, SZ, ↓reduceIte, reduceCtorEq, nE, nA, nL, nT, hg6, hc10]
   refine hK _ _ ?_
   clear hK K
   refine wpT_if (by rfl) (fun hc12 => ?_) (fun hc12 => ?_)
   ·
    have p12 := hc12
    try simp only [PB] at p12
    rw [if_pos hc12] at hx
    refine wpT_seq ?_
    refine wpT_region (by kernel_rfl) (fun K hK => ?_)
    simp only [↓SP, SZ, ↓reduceIte, reduceCtorEq, nE, nA, nL, nT, hg6, hc10, hc12]
    refine hK _ _ ?_
    clear hK K
    refine wpT_ret ⟨.inr rfl, ?_⟩
    show optK (resA _ _ _ [.tmp 2]) _
    simp only [SRO, ↓SP, SZ, ↓reduceIte, reduceCtorEq, nE, nA, nL, nT, hg6, hc10, hc12]
    refine Lend.eq ?_
    rw [hx]
   ·
    have p12 := hc12
    try simp only [PB] at p12
    rw [if_neg (by rw [hc12]; simp)] at hx
    refine wpT_skip ?_
    refine wpT_seq ?_
    refine wpT_region (by kernel_rfl) (fun K hK => ?_)
    simp only [↓SP, SZ, ↓reduceIte, reduceCtorEq, nE, nA, nL, nT, hg6, hc10, hc12]
    refine hK _ _ ?_
    clear hK K
    refine wpT_ret ⟨.inr rfl, ?_⟩
    show optK (resA _ _ _ [.tmp 2]) _
    simp only [SRO, ↓SP, SZ, ↓reduceIte, reduceCtorEq, nE, nA, nL, nT, hg6, hc10, hc12]
    refine Lend.eq ?_
    rw [hx]
 ·
  simp only [Bool.not_true, Bool.not_false] at hg6
  have p6 := hg6
  try simp only [PB] at p6
  simp only [↓SP, SZ, ↓reduceIte, reduceCtorEq, nE, nA, nL, nT, hg6]
  refine hK _ _ ?_
  clear hK K
  refine wpT_ifT (by simp only [↓SP, SZ, ↓reduceIte, reduceCtorEq, nE, nA, nL, nT, hg6]) ?_
  have hx : sizesE xs = 6 := if_pos (by omega)
  refine wpT_seq ?_
  refine wpT_region (by kernel_rfl) (fun K hK => ?_)
  simp only [↓SP, SZ, ↓reduceIte, reduceCtorEq, nE, nA, nL, nT, hg6]
  refine hK _ _ ?_
  clear hK K
  refine wpT_ret ⟨.inr rfl, ?_⟩
  show optK (resA _ _ _ [.tmp 2]) _
  simp only [SRO, ↓SP, SZ, ↓reduceIte, reduceCtorEq, nE, nA, nL, nT, hg6]
  refine Lend.eq ?_
  rw [hx]
end Go.Proofs.YtfdfkmcplhloaaaGreat
end

section
set_option linter.unusedSimpArgs false
set_option linter.unusedVariables false
namespace Go.Proofs.YtfdfkmcplhloaaaGreat
open Go.Proofs
open Nat renaming reduceEqDiff → nE, reduceAdd → nA, reduceLeDiff → nL, reduceLT → nT
set_option maxRecDepth 10000
def zeros (n : Int) : List Sec := List.replicate n.toNat sec0
theorem c89 (n : Int) (h0 : 0 ≤ n) (h1 : n ≤ 4096) : Pu Tryz.prog (.fn (.func 89) [] []) [I n] (.lst ((zeros n).map Sec.av)) := by
 refine pu_func Tryz.func89 rfl (by kernel_rfl) (by show _ ≤ 5; simp only [List.length_append, List.length_cons, List.length_nil]; decide) (by simp only [IDF, sec_idf', implies_true]) (by simp only [IDF, and_tt, implies_true]) (by simp only [IDF, and_tt, implies_true]) ?_
 rw [Tryz.ntmps89]
 refine wpT_seq ?_
 refine wpT_region (by kernel_rfl) (fun K hK => ?_)
 simp only [↓SP, SZ, ↓reduceIte, reduceCtorEq, nE, nA, nL, nT]
 refine hK _ _ ?_
 clear hK K
 refine wpT_seq ?_
 refine wpT_region (by kernel_rfl) (fun K hK => ?_)
 simp only [↓SP, SZ, ↓reduceIte, reduceCtorEq, nE, nA, nL, nT, msO_ok 8 n n h0 (Int.le_refl _) (by omega) (by omega)]
 refine hK _ _ ?_
 clear hK K
 refine wpT_ret ⟨.inr rfl, ?_⟩
 show optK (resA _ _ _ [.tmp 2]) _
 simp only [SRO, ↓SP, SZ, ↓reduceIte, reduceCtorEq, nE, nA, nL, nT]
 have he : (zeros n).map Sec.av = List.replicate n.toNat (.agg [.int .u8 0, .int .u8 0, .int .u8 0, .int .u8 0, .int .u8 0, .int .u8 0, .int .u8 0, .int .u8 0]) := by simp [zeros, Sec.av, sec0]
 rw [he]
 exact Lend.sl0 (id := 0) (E := 49) (s := 8) (n := n.toNat) (by rfl) (by simp) (by simp [AV.okc])
theorem c88 (xs : List Int) (fv : AV) (g : Int → List AV) (hl : xs.length ≤ 4096) (hfv : Idf fv) (hp : ∀ x ∈ xs, Pu Tryz.prog fv [I x] (.lst (g x))) : Pu Tryz.prog (.fn (.func 88) [] []) [.lst (xs.map I), fv] (.lst (xs.map fun x => .lst (g x))) := by
 refine pu_func Tryz.func88 rfl (by kernel_rfl) (by show _ ≤ 25; simp only [List.length_append, List.length_cons, List.length_nil]; decide) (by simp only [IDF]; exact fun x hx => by simpa only [IDF] using (hp x hx).hr) (by simp only [IDF, and_tt, implies_true]) (by simp only [IDF, eq_true hfv, and_tt, implies_true]) ?_
 rw [Tryz.ntmps88]
 refine wpT_seq ?_
 refine wpT_region (by kernel_rfl) (fun K hK => ?_)
 simp only [↓SP, SZ, ↓reduceIte, reduceCtorEq, nE, nA, nL, nT]
 refine hK _ _ ?_
 clear hK K
 refine wpT_seq ?_
 refine wpT_region (by kernel_rfl) (fun K hK => ?_)
 simp only [↓SP, SZ, ↓reduceIte, reduceCtorEq, nE, nA, nL, nT, msO_ok 24 0 (xs.length : Int) (by omega) (by omega) (by omega) (by omega), Int.toNat_zero, List.replicate_zero]
 refine hK _ _ ?_
 clear hK K
 refine wpT_seq ?_
 refine wpT_seq ?_
 refine wpT_region (by kernel_rfl) (fun K hK => ?_)
 simp only [↓SP, SZ, ↓reduceIte, reduceCtorEq, nE, nA, nL, nT]
 refine hK _ _ ?_
 clear hK K
 refine wpT_block ?_
 refine wpT_loop ?_
 refine wpT_keep1 (i := 0) (o := .arr 43 1 []) (by simp only [↓SP, SZ, ↓reduceIte, reduceCtorEq, nE, nA, nL, nT]) ?_
 refine wpT_ind (fun (i : Nat) tm' h' => (∃ m, h' = Hp.of [(0, .arr 43 1 ((xs.take i).map fun x => .lst (g x)))] (m + 1)) ∧ tm' 1 = fv ∧ tm' 5 = .sl 0 i 0 i ∧ tm' 11 = .lst (xs.map I) ∧ tm' 12 = I xs.length ∧ tm' 13 = I i ∧ i ≤ xs.length) (fun i => xs.length - i) ?_ 0 ⟨⟨0, rfl⟩, rfl, rfl, rfl, rfl, rfl, by omega⟩
 rintro i tm' _ ⟨⟨m, rfl⟩, e1, e5, e11, e12, e13, hi⟩ IH
 refine wpT_inLoop ?_
 refine wpT_seq ?_
 refine wpT_region (by kernel_rfl) (fun K hK => ?_)
 simp only [↓SP, SZ, ↓reduceIte, reduceCtorEq, nE, nA, nL, nT, e12, e13]
 refine hK _ _ ?_
 clear hK K
 refine wpT_seq ?_
 refine wpT_if (by rfl) (fun hc14 => ?_) (fun hc14 => ?_)
 ·
  have p14 := hc14
  try simp only [PB] at p14
  have hlt : i < xs.length := by omega
  have hg := at_map (f := I) hlt
  have q1 : i + 1 ≤ maxLen := by simp only [maxLen]; omega
  have q2 : (i + 1) * 24 ≤ 140737488355328 := by omega
  have q3 : (List.map (fun x => AV.lst (g x)) (xs.take i)).length = i := by simp; omega
  have q4 : (xs.take (i + 1)).map (fun x => AV.lst (g x)) = (xs.take i).map (fun x => AV.lst (g x)) ++ [.lst (g xs[i])] := by rw [List.take_add_one, List.getElem?_eq_getElem hlt, List.map_append]; rfl
  refine wpT_skip ?_
  refine wpT_seq ?_
  refine wpT_block ?_
  refine wpT_seq ?_
  refine wpT_region (by kernel_rfl) (fun K hK => ?_)
  simp only [↓SP, SZ, ↓reduceIte, reduceCtorEq, nE, nA, nL, nT, e11, e13, hg, hc14]
  refine hK _ _ ?_
  clear hK K
  refine wpT_region (by kernel_rfl) (fun K hK => ?_)
  simp only [↓SP, SZ, ↓reduceIte, reduceCtorEq, nE, nA, nL, nT, e1, e5, q1, q2, List.length_take, Nat.min_eq_left hi, hc14]
  refine Pu.call (hp _ (List.getElem_mem hlt)) ?_
  simp only [↓SP, SZ, ↓reduceIte, reduceCtorEq, nE, nA, nL, nT, e1, e5, q1, q2, List.length_take, Nat.min_eq_left hi, hc14]
  refine hK _ _ ?_
  clear hK K
  refine wpT_inBlock ?_
  refine wpT_region (by kernel_rfl) (fun K hK => ?_)
  simp only [↓SP, SZ, ↓reduceIte, reduceCtorEq, nE, nA, nL, nT, e13, wrap64 (x := (i : Int) + 1) (by omega) (by omega), hc14]
  refine hK _ _ ?_
  clear hK K
  refine wpT_keep1 (i := 0) (o := .arr 43 1 ((xs.take (i + 1)).map fun x => .lst (g x))) (by simp only [↓SP, SZ, ↓reduceIte, reduceCtorEq, nE, nA, nL, nT, q4]) ?_
  refine IH (i + 1) _ _ (by omega) ⟨⟨_, rfl⟩, by simp only [↓SP, SZ, ↓reduceIte, reduceCtorEq, nE, nA, nL, nT, e1], by simp only [↓SP, SZ, ↓reduceIte, reduceCtorEq, nE, nA, nL, nT], by simp only [↓SP, SZ, ↓reduceIte, reduceCtorEq, nE, nA, nL, nT, e11], by simp only [↓SP, SZ, ↓reduceIte, reduceCtorEq, nE, nA, nL, nT, e12], by simp only [↓SP, SZ, ↓reduceIte, reduceCtorEq, nE, nA, nL, nT, Int.natCast_add, Int.cast_ofNat_Int], by omega⟩
 ·
  have p14 := hc14
  try simp only [PB] at p14
  have hi2 : i = xs.length := by omega
  subst hi2
  refine wpT_exit rfl ?_
  refine wpT_seq ?_
  refine wpT_region (by kernel_rfl) (fun K hK => ?_)
  simp only [↓SP, SZ, ↓reduceIte, reduceCtorEq, nE, nA, nL, nT, e5, List.take_length, hc14]
  refine hK _ _ ?_
  clear hK K
  refine wpT_ret ⟨.inr rfl, ?_⟩
  show optK (resA _ _ _ [.tmp 4]) _
  simp only [SRO, ↓SP, SZ, ↓reduceIte, reduceCtorEq, nE, nA, nL, nT, hc14]
  exact Lend.sl0 (id := 0) (E := 43) (s := 1) (n := xs.length) (by simp only [of_cons, if_true, List.take_length]) (by simp) (by simp [AV.okc])
def newImg (xs : List Int) : List (List Sec) := if sizesE xs ≠ 0 then [] else xs.map zeros
theorem c65 (xs : List Int) (hl : xs.length < 4611686018427387904) : Pu Tryz.prog (.fn (.func 65) [] []) [.lst (xs.map I)] (.tup [imgAV (newImg xs), I (sizesE xs)]) := by
 refine pu_func Tryz.func65 rfl (by kernel_rfl) (by show _ ≤ 12; simp only [List.length_append, List.length_cons, List.length_nil]; decide) (by simp only [IDF, img_idf, and_tt]) (by simp only [IDF, and_tt, implies_true]) (by simp only [IDF, and_tt, implies_true]) ?_
 rw [Tryz.ntmps65]
 refine wpT_seq ?_
 refine wpT_region (by kernel_rfl) (fun K hK => ?_)
 simp only [↓SP, SZ, ↓reduceIte, reduceCtorEq, nE, nA, nL, nT]
 refine hK _ _ ?_
 clear hK K
 refine wpT_seq ?_
 refine wpT_seq ?_
 refine wpT_region (by kernel_rfl) (fun K hK => ?_)
 simp only [↓SP, SZ, ↓reduceIte, reduceCtorEq, nE, nA, nL, nT]
 refine Pu.call (c62 xs hl) ?_
 simp only [↓SP, SZ, ↓reduceIte, reduceCtorEq, nE, nA, nL, nT]
 refine hK _ _ ?_
 clear hK K
 refine wpT_seq ?_
 refine wpT_region (by kernel_rfl) (fun K hK => ?_)
 simp only [↓SP, SZ, ↓reduceIte, reduceCtorEq, nE, nA, nL, nT]
 refine hK _ _ ?_
 clear hK K
 refine wpT_if (by rfl) (fun hc8 => ?_) (fun hc8 => ?_)
 ·
  have p8 := hc8
  try simp only [PB] at p8
  have hx : newImg xs = [] := if_pos p8
  refine wpT_seq ?_
  refine wpT_region (by kernel_rfl) (fun K hK => ?_)
  simp only [↓SP, SZ, ↓reduceIte, reduceCtorEq, nE, nA, nL, nT, hc8]
  refine hK _ _ ?_
  clear hK K
  refine wpT_ret ⟨.inr rfl, ?_⟩
  show optK (resA _ _ _ [.tmp 2, .tmp 3]) _
  simp only [SRO, ↓SP, SZ, ↓reduceIte, reduceCtorEq, nE, nA, nL, nT, hc8]
  rw [hx]
  refine Lend.tupL (LendL.cons ?_ (LendL.cons ?_ LendL.nil))
  · first
      | exact .nil0
      | exact Lend.eq (by simp [imgAV])
  · exact Lend.eq (by first | rfl | rw [p8])
 ·
  have p8 := hc8
  try simp only [PB] at p8
  have hx : newImg xs = xs.map zeros := if_neg (by omega)
  have hz := sizesE_le p8
  have hl8 : xs.length ≤ 8 := by
    unfold sizesE at p8
    split at p8
    · simp at p8
    · omega
  refine wpT_skip ?_
  refine wpT_seq ?_
  refine wpT_region (by kernel_rfl) (fun K hK => ?_)
  simp only [↓SP, SZ, ↓reduceIte, reduceCtorEq, nE, nA, nL, nT, hc8]
  refine Pu.call (c88 xs _ (fun x => (zeros x).map Sec.av) (by omega) (by simp only [IDF, and_tt]) (fun x hx => c89 x (by have := hz x hx; omega) (hz x hx).2)) ?_
  simp only [↓SP, SZ, ↓reduceIte, reduceCtorEq, nE, nA, nL, nT, hc8]
  refine hK _ _ ?_
  clear hK K
  refine wpT_ret ⟨.inr rfl, ?_⟩
  show optK (resA _ _ _ [.tmp 2, .tmp 3]) _
  simp only [SRO, ↓SP, SZ, ↓reduceIte, reduceCtorEq, nE, nA, nL, nT, hc8]
  rw [hx]
  refine Lend.tupL (LendL.cons ?_ (LendL.cons ?_ LendL.nil))
  · first
      | exact .nil0
      | exact Lend.eq (by simp [imgAV])
  · exact Lend.eq (by first | rfl | rw [p8])
end Go.Proofs.YtfdfkmcplhloaaaGreat
end

section
set_option linter.unusedSimpArgs false
set_option linter.unusedVariables false
namespace Go.Proofs.YtfdfkmcplhloaaaGreat
open Go.Proofs
open Nat renaming reduceEqDiff → nE, reduceAdd → nA, reduceLeDiff → nL, reduceLT → nT
set_option maxRecDepth 10000
def sizesOf (im : List (List Sec)) : List Int := im.map fun l => (l.length : Int)
theorem c87 (l : List Sec) : Pu Tryz.prog (.fn (.func 87) [] []) [.lst (l.map Sec.av)] (I l.length) := by
 refine pu_func Tryz.func87 rfl (by kernel_rfl) (by show _ ≤ 5; simp only [List.length_append, List.length_cons, List.length_nil]; decide) (by simp only [IDF]) (by simp only [IDF, and_tt, implies_true]) (by simp only [IDF, sec_idf', and_tt, implies_true]) ?_
 rw [Tryz.ntmps87]
 refine wpT_seq ?_
 refine wpT_region (by kernel_rfl) (fun K hK => ?_)
 simp only [↓SP, SZ, ↓reduceIte, reduceCtorEq, nE, nA, nL, nT]
 refine hK _ _ ?_
 clear hK K
 refine wpT_seq ?_
 refine wpT_region (by kernel_rfl) (fun K hK => ?_)
 simp only [↓SP, SZ, ↓reduceIte, reduceCtorEq, nE, nA, nL, nT]
 refine hK _ _ ?_
 clear hK K
 refine wpT_ret ⟨.inr rfl, ?_⟩
 show optK (resA _ _ _ [.tmp 2]) _
 simp only [SRO, ↓SP, SZ, ↓reduceIte, reduceCtorEq, nE, nA, nL, nT]
 exact .refl _
theorem c86 (xs : List (List Sec)) (fv : AV) (g : List Sec → Int) (hl : xs.length ≤ 4096000) (hfv : Idf fv) (hp : ∀ x ∈ xs, Pu Tryz.prog fv [.lst (x.map Sec.av)] (I (g x))) : Pu Tryz.prog (.fn (.func 86) [] []) [imgAV xs, fv] (.lst ((xs.map g).map I)) := by
 refine pu_func Tryz.func86 rfl (by kernel_rfl) (by show _ ≤ 25; simp only [List.length_append, List.length_cons, List.length_nil]; decide) (by simp only [IDF, implies_true]) (by simp only [IDF, and_tt, implies_true]) (by simp only [IDF, img_idf, eq_true hfv, and_tt, implies_true]) ?_
 rw [Tryz.ntmps86]
 refine wpT_seq ?_
 refine wpT_region (by kernel_rfl) (fun K hK => ?_)
 simp only [↓SP, SZ, ↓reduceIte, reduceCtorEq, nE, nA, nL, nT, imgAV]
 refine hK _ _ ?_
 clear hK K
 refine wpT_seq ?_
 refine wpT_region (by kernel_rfl) (fun K hK => ?_)
 simp only [↓SP, SZ, ↓reduceIte, reduceCtorEq, nE, nA, nL, nT, imgAV, msO_ok 8 0 (xs.length : Int) (by omega) (by omega) (by omega) (by omega), Int.toNat_zero, List.replicate_zero]
 refine hK _ _ ?_
 clear hK K
 refine wpT_seq ?_
 refine wpT_seq ?_
 refine wpT_region (by kernel_rfl) (fun K hK => ?_)
 simp only [↓SP, SZ, ↓reduceIte, reduceCtorEq, nE, nA, nL, nT, imgAV]
 refine hK _ _ ?_
 clear hK K
 refine wpT_block ?_
 refine wpT_loop ?_
 refine wpT_keep1 (i := 0) (o := .arr 3 1 []) (by simp only [↓SP, SZ, ↓reduceIte, reduceCtorEq, nE, nA, nL, nT]) ?_
 refine wpT_ind (fun (i : Nat) tm' h' => (∃ m, h' = Hp.of [(0, .arr 3 1 ((xs.take i).map fun x => I (g x)))] (m + 1)) ∧ tm' 1 = fv ∧ tm' 5 = .sl 0 i 0 i ∧ tm' 11 = imgAV xs ∧ tm' 12 = I xs.length ∧ tm' 13 = I i ∧ i ≤ xs.length) (fun i => xs.length - i) ?_ 0 ⟨⟨0, rfl⟩, rfl, rfl, rfl, rfl, rfl, by omega⟩
 rintro i tm' _ ⟨⟨m, rfl⟩, e1, e5, e11, e12, e13, hi⟩ IH
 refine wpT_inLoop ?_
 refine wpT_seq ?_
 refine wpT_region (by kernel_rfl) (fun K hK => ?_)
 simp only [↓SP, SZ, ↓reduceIte, reduceCtorEq, nE, nA, nL, nT, imgAV, e12, e13]
 refine hK _ _ ?_
 clear hK K
 refine wpT_seq ?_
 refine wpT_if (by rfl) (fun hc14 => ?_) (fun hc14 => ?_)
 ·
  have p14 := hc14
  try simp only [PB] at p14
  have hlt : i < xs.length := by omega
  have hg := at_map (f := fun l : List Sec => AV.lst (l.map Sec.av)) hlt
  have q1 : i + 1 ≤ maxLen := by simp only [maxLen]; omega
  have q2 : (i + 1) * 8 ≤ 140737488355328 := by omega
  have q4 : (xs.take (i + 1)).map (fun x => I (g x)) = (xs.take i).map (fun x => I (g x)) ++ [I (g xs[i])] := by rw [List.take_add_one, List.getElem?_eq_getElem hlt, List.map_append]; rfl
  refine wpT_skip ?_
  refine wpT_seq ?_
  refine wpT_block ?_
  refine wpT_seq ?_
  refine wpT_region (by kernel_rfl) (fun K hK => ?_)
  simp only [↓SP, SZ, ↓reduceIte, reduceCtorEq, nE, nA, nL, nT, imgAV, e11, e13, hg, hc14]
  refine hK _ _ ?_
  clear hK K
  refine wpT_region (by kernel_rfl) (fun K hK => ?_)
  simp only [↓SP, SZ, ↓reduceIte, reduceCtorEq, nE, nA, nL, nT, imgAV, e1, e5, q1, q2, List.length_take, Nat.min_eq_left hi, hc14]
  refine Pu.call (hp _ (List.getElem_mem hlt)) ?_
  simp only [↓SP, SZ, ↓reduceIte, reduceCtorEq, nE, nA, nL, nT, imgAV, e1, e5, q1, q2, List.length_take, Nat.min_eq_left hi, hc14]
  refine hK _ _ ?_
  clear hK K
  refine wpT_inBlock ?_
  refine wpT_region (by kernel_rfl) (fun K hK => ?_)
  simp only [↓SP, SZ, ↓reduceIte, reduceCtorEq, nE, nA, nL, nT, imgAV, e13, wrap64 (x := (i : Int) + 1) (by omega) (by omega), hc14]
  refine hK _ _ ?_
  clear hK K
  refine wpT_keep1 (i := 0) (o := .arr 3 1 ((xs.take (i + 1)).map fun x => I (g x))) (by simp only [↓SP, SZ, ↓reduceIte, reduceCtorEq, nE, nA, nL, nT, q4]) ?_
  refine IH (i + 1) _ _ (by omega) ⟨⟨_, rfl⟩, by simp only [↓SP, SZ, ↓reduceIte, reduceCtorEq, nE, nA, nL, nT, e1], by simp only [↓SP, SZ, ↓reduceIte, reduceCtorEq, nE, nA, nL, nT], by simp only [↓SP, SZ, ↓reduceIte, reduceCtorEq, nE, nA, nL, nT, e11], by simp only [↓SP, SZ, ↓reduceIte, reduceCtorEq, nE, nA, nL, nT, e12], by simp only [↓SP, SZ, ↓reduceIte, reduceCtorEq, nE, nA, nL, nT, Int.natCast_add, Int.cast_ofNat_Int], by omega⟩
 ·
  have p14 := hc14
  try simp only [PB] at p14
  have hi2 : i = xs.length := by omega
  subst hi2
  refine wpT_exit rfl ?_
  refine wpT_seq ?_
  refine wpT_region (by kernel_rfl) (fun K hK => ?_)
  simp only [↓SP, SZ, ↓reduceIte, reduceCtorEq, nE, nA, nL, nT, imgAV, e5, List.take_length, hc14]
  refine hK _ _ ?_
  clear hK K
  refine wpT_ret ⟨.inr rfl, ?_⟩
  show optK (resA _ _ _ [.tmp 4]) _
  simp only [SRO, ↓SP, SZ, ↓reduceIte, reduceCtorEq, nE, nA, nL, nT, imgAV, hc14]
  exact Lend.sl0 (id := 0) (E := 3) (s := 1) (n := xs.length) (by simp only [of_cons, if_true, List.take_length, List.map_map]; rfl) (by simp) (by simp [AV.okc])
theorem c63 (im : List (List Sec)) (hl : im.length ≤ 4096000) : Pu Tryz.prog (.fn (.func 63) [] []) [imgAV im] (.lst ((sizesOf im).map I)) := by
 refine pu_func Tryz.func63 rfl (by kernel_rfl) (by show _ ≤ 5; simp only [List.length_append, List.length_cons, List.length_nil]; decide) (by simp only [IDF, implies_true]) (by simp only [IDF, and_tt, implies_true]) (by simp only [IDF, img_idf, and_tt, implies_true]) ?_
 rw [Tryz.ntmps63]
 refine wpT_seq ?_
 refine wpT_region (by kernel_rfl) (fun K hK => ?_)
 simp only [↓SP, SZ, ↓reduceIte, reduceCtorEq, nE, nA, nL, nT]
 refine hK _ _ ?_
 clear hK K
 refine wpT_seq ?_
 refine wpT_region (by kernel_rfl) (fun K hK => ?_)
 simp only [↓SP, SZ, ↓reduceIte, reduceCtorEq, nE, nA, nL, nT]
 refine Pu.call (c86 im _ _ hl (by simp only [IDF, and_tt]) (fun x _ => c87 x)) ?_
 simp only [↓SP, SZ, ↓reduceIte, reduceCtorEq, nE, nA, nL, nT]
 refine hK _ _ ?_
 clear hK K
 refine wpT_ret ⟨.inr rfl, ?_⟩
 show optK (resA _ _ _ [.tmp 2]) _
 simp only [SRO, ↓SP, SZ, ↓reduceIte, reduceCtorEq, nE, nA, nL, nT]
 exact .refl _
theorem c33 (im : List (List Sec)) (hl : im.length ≤ 4096000) : Pu Tryz.prog (.fn (.func 33) [] []) [imgAV im] (I (sizesE (sizesOf im))) := by
 refine pu_func Tryz.func33 rfl (by kernel_rfl) (by show _ ≤ 6; simp only [List.length_append, List.length_cons, List.length_nil]; decide) (by simp only [IDF, implies_true]) (by simp only [IDF, and_tt, implies_true]) (by simp only [IDF, img_idf, and_tt, implies_true]) ?_
 rw [Tryz.ntmps33]
 refine wpT_seq ?_
 refine wpT_region (by kernel_rfl) (fun K hK => ?_)
 simp only [↓SP, SZ, ↓reduceIte, reduceCtorEq, nE, nA, nL, nT]
 refine hK _ _ ?_
 clear hK K
 refine wpT_seq ?_
 refine wpT_region (by kernel_rfl) (fun K hK => ?_)
 simp only [↓SP, SZ, ↓reduceIte, reduceCtorEq, nE, nA, nL, nT]
 refine Pu.call (c63 im hl) ?_
 simp only [↓SP, SZ, ↓reduceIte, reduceCtorEq, nE, nA, nL, nT]
 refine Pu.call (c62 (sizesOf im) (by simp [sizesOf]; omega)) ?_
 simp only [↓SP, SZ, ↓reduceIte, reduceCtorEq, nE, nA, nL, nT]
 refine hK _ _ ?_
 clear hK K
 refine wpT_ret ⟨.inr rfl, ?_⟩
 show optK (resA _ _ _ [.tmp 2]) _
 simp only [SRO, ↓SP, SZ, ↓reduceIte, reduceCtorEq, nE, nA, nL, nT]
 exact .refl _
theorem c92 (im : List (List Sec)) (w : Wr) (hl : im.length < 4611686018427387904) (hm : ∀ l ∈ im, l.length < 4611686018427387904) (hw : w.data.length < 4611686018427387904) : Pu Tryz.prog (.fn (.func 92) [] []) [imgAV im, w.av] (I (fitsE (sizesOf im) w)) := by
 refine pu_func Tryz.func92 rfl (by kernel_rfl) (by show _ ≤ 40; simp only [List.length_append, List.length_cons, List.length_nil]; decide) (by simp only [IDF, implies_true]) (by simp only [IDF, and_tt, implies_true]) (by simp only [IDF, img_idf, wr_idf, and_tt, implies_true]) ?_
 have hsl : (sizesOf im).length = im.length := by simp [sizesOf]
 rw [Tryz.ntmps92]
 refine wpT_seq ?_
 refine wpT_region (by kernel_rfl) (fun K hK => ?_)
 simp only [↓SP, SZ, ↓reduceIte, reduceCtorEq, nE, nA, nL, nT, imgAV, Wr.av]
 refine hK _ _ ?_
 clear hK K
 refine wpT_seq ?_
 refine wpT_block ?_
 refine wpT_seq ?_
 refine wpT_region (by kernel_rfl) (fun K hK => ?_)
 simp only [↓SP, SZ, ↓reduceIte, reduceCtorEq, nE, nA, nL, nT, imgAV, Wr.av]
 refine guardO_split (fun hg9 => ?_) (fun hg9 => ?_)
 ·
  have p9 := hg9
  try simp only [PB] at p9
  simp only [↓SP, SZ, ↓reduceIte, reduceCtorEq, nE, nA, nL, nT, imgAV, Wr.av, hg9]
  refine hK _ _ ?_
  clear hK K
  refine wpT_if (by rfl) (fun hc5 => ?_) (fun hc5 => ?_)
  ·
   have p5 := hc5
   try simp only [PB] at p5
   have hx : fitsE (sizesOf im) w = 7 := if_pos (by omega)
   refine wpT_seq ?_
   refine wpT_region (by kernel_rfl) (fun K hK => ?_)
   simp only [↓SP, SZ, ↓reduceIte, reduceCtorEq, nE, nA, nL, nT, imgAV, Wr.av, hg9, hc5]
   refine hK _ _ ?_
   clear hK K
   refine wpT_ret ⟨.inr rfl, ?_⟩
   show optK (resA _ _ _ [.tmp 4]) _
   simp only [SRO, ↓SP, SZ, ↓reduceIte, reduceCtorEq, nE, nA, nL, nT, imgAV, Wr.av, hg9, hc5]
   refine Lend.eq ?_
   first
     | rw [hx]
     | rw [hx0, if_pos (by omega)]
     | rw [hx0, if_neg (by omega), if_pos (by omega)]
     | rw [hx0, if_neg (by omega), if_neg (by omega)]
  ·
   have p5 := hc5
   try simp only [PB] at p5
   obtain ⟨n, hv⟩ := Int.eq_ofNat_of_zero_le (a := w.vol) (by omega)
   have hlt : n < im.length := by omega
   have hg := at_map (f := fun l : List Sec => AV.lst (l.map Sec.av)) hlt
   have hmn := hm _ (List.getElem_mem hlt)
   have hd : (sizesOf im).getD w.vol.toNat 0 = im[n].length := by rw [hv]; simp [sizesOf, List.getD_eq_getElem?_getD, hlt]
   have hw1 : IntKind.i64.wrap ((im[n].length : Int) - w.data.length) = (im[n].length : Int) - w.data.length := wrap64 (by omega) (by omega)
   have hx0 : fitsE (sizesOf im) w = if w.data.length = 0 then 1 else if w.start < 0 ∨ w.start ≥ (im[n].length : Int) ∨ w.data.length > (im[n].length : Int) - w.start then 2 else 0 := by
     rw [fitsE, if_neg (by omega), hd]
   refine wpT_seq ?_
   refine wpT_region (by kernel_rfl) (fun K hK => ?_)
   simp only [↓SP, SZ, ↓reduceIte, reduceCtorEq, nE, nA, nL, nT, imgAV, Wr.av, hg9, hc5]
   refine hK _ _ ?_
   clear hK K
   refine wpT_if (by rfl) (fun hc16 => ?_) (fun hc16 => ?_)
   ·
    have p16 := hc16
    try simp only [PB] at p16
    refine wpT_seq ?_
    refine wpT_region (by kernel_rfl) (fun K hK => ?_)
    simp only [↓SP, SZ, ↓reduceIte, reduceCtorEq, nE, nA, nL, nT, imgAV, Wr.av, hg9, hc5, hc16]
    refine hK _ _ ?_
    clear hK K
    refine wpT_ret ⟨.inr rfl, ?_⟩
    show optK (resA _ _ _ [.tmp 4]) _
    simp only [SRO, ↓SP, SZ, ↓reduceIte, reduceCtorEq, nE, nA, nL, nT, imgAV, Wr.av, hg9, hc5, hc16]
    refine Lend.eq ?_
    first
      | rw [hx]
      | rw [hx0, if_pos (by omega)]
      | rw [hx0, if_neg (by omega), if_pos (by omega)]
      | rw [hx0, if_neg (by omega), if_neg (by omega)]
   ·
    have p16 := hc16
    try simp only [PB] at p16
    refine wpT_seq ?_
    refine wpT_drawn [] mixed (by kernel_rfl) (m := 19) rfl (fun K hK => ?_)
    simp only [↓SP, SZ, ↓reduceIte, reduceCtorEq, nE, nA, nL, nT, imgAV, Wr.av, hv, hg, hw1, hg9, hc5, hc16]
    refine guardD_split (fun hg25 => ?_) (fun hg25 => ?_)
    ·
     have p25 := hg25
     try simp only [PB] at p25
     simp only [↓SP, SZ, ↓reduceIte, reduceCtorEq, nE, nA, nL, nT, imgAV, Wr.av, hv, hg, hw1, hg9, hc5, hc16, hg25]
     refine hK _ _ ?_
     clear hK K
     refine wpT_if (by rfl) (fun hc21 => ?_) (fun hc21 => ?_)
     ·
      have p21 := hc21
      try simp only [PB] at p21
      refine wpT_seq ?_
      refine wpT_region (by kernel_rfl) (fun K hK => ?_)
      simp only [↓SP, SZ, ↓reduceIte, reduceCtorEq, nE, nA, nL, nT, imgAV, Wr.av, hg9, hc5, hc16, hg25, hc21]
      refine hK _ _ ?_
      clear hK K
      refine wpT_ret ⟨.inr rfl, ?_⟩
      show optK (resA _ _ _ [.tmp 4]) _
      simp only [SRO, ↓SP, SZ, ↓reduceIte, reduceCtorEq, nE, nA, nL, nT, imgAV, Wr.av, hg9, hc5, hc16, hg25, hc21]
      refine Lend.eq ?_
      first
        | rw [hx]
        | rw [hx0, if_pos (by omega)]
        | rw [hx0, if_neg (by omega), if_pos (by omega)]
        | rw [hx0, if_neg (by omega), if_neg (by omega)]
     ·
      have p21 := hc21
      try simp only [PB] at p21
      refine wpT_skip ?_
      refine wpT_inBlock ?_
      refine wpT_seq ?_
      refine wpT_region (by kernel_rfl) (fun K hK => ?_)
      simp only [↓SP, SZ, ↓reduceIte, reduceCtorEq, nE, nA, nL, nT, imgAV, Wr.av, hg9, hc5, hc16, hg25, hc21]
      refine hK _ _ ?_
      clear hK K
      refine wpT_ret ⟨.inr rfl, ?_⟩
      show optK (resA _ _ _ [.tmp 4]) _
      simp only [SRO, ↓SP, SZ, ↓reduceIte, reduceCtorEq, nE, nA, nL, nT, imgAV, Wr.av, hg9, hc5, hc16, hg25, hc21]
      refine Lend.eq ?_
      first
        | rw [hx]
        | rw [hx0, if_pos (by omega)]
        | rw [hx0, if_neg (by omega), if_pos (by omega)]
        | rw [hx0, if_neg (by omega), if_neg (by omega)]
    ·
     simp only [Bool.not_true, Bool.not_false] at hg25
     have p25 := hg25
     try simp only [PB] at p25
     simp only [↓SP, SZ, ↓reduceIte, reduceCtorEq, nE, nA, nL, nT, imgAV, Wr.av, hv, hg, hw1, hg9, hc5, hc16, hg25]
     refine hK _ _ ?_
     clear hK K
     refine wpT_ifT (by simp only [↓SP, SZ, ↓reduceIte, reduceCtorEq, nE, nA, nL, nT, imgAV, Wr.av, hg9, hc5, hc16, hg25]) ?_
     refine wpT_seq ?_
     refine wpT_region (by kernel_rfl) (fun K hK => ?_)
     simp only [↓SP, SZ, ↓reduceIte, reduceCtorEq, nE, nA, nL, nT, imgAV, Wr.av, hg9, hc5, hc16, hg25]
     refine hK _ _ ?_
     clear hK K
     refine wpT_ret ⟨.inr rfl, ?_⟩
     show optK (resA _ _ _ [.tmp 4]) _
     simp only [SRO, ↓SP, SZ, ↓reduceIte, reduceCtorEq, nE, nA, nL, nT, imgAV, Wr.av, hg9, hc5, hc16, hg25]
     refine Lend.eq ?_
     first
       | rw [hx]
       | rw [hx0, if_pos (by omega)]
       | rw [hx0, if_neg (by omega), if_pos (by omega)]
       | rw [hx0, if_neg (by omega), if_neg (by omega)]
 ·
  simp only [Bool.not_true, Bool.not_false] at hg9
  have p9 := hg9
  try simp only [PB] at p9
  simp only [↓SP, SZ, ↓reduceIte, reduceCtorEq, nE, nA, nL, nT, imgAV, Wr.av, hg9]
  refine hK _ _ ?_
  clear hK K
  refine wpT_ifT (by simp only [↓SP, SZ, ↓reduceIte, reduceCtorEq, nE, nA, nL, nT, imgAV, Wr.av, hg9]) ?_
  have hx : fitsE (sizesOf im) w = 7 := if_pos (by omega)
  refine wpT_seq ?_
  refine wpT_region (by kernel_rfl) (fun K hK => ?_)
  simp only [↓SP, SZ, ↓reduceIte, reduceCtorEq, nE, nA, nL, nT, imgAV, Wr.av, hg9]
  refine hK _ _ ?_
  clear hK K
  refine wpT_ret ⟨.inr rfl, ?_⟩
  show optK (resA _ _ _ [.tmp 4]) _
  simp only [SRO, ↓SP, SZ, ↓reduceIte, reduceCtorEq, nE, nA, nL, nT, imgAV, Wr.av, hg9]
  refine Lend.eq ?_
  first
    | rw [hx]
    | rw [hx0, if_pos (by omega)]
    | rw [hx0, if_neg (by omega), if_pos (by omega)]
    | rw [hx0, if_neg (by omega), if_neg (by omega)]
def fitsI (im : List (List Sec)) (w : Wr) : Int := if sizesE (sizesOf im) ≠ 0 then sizesE (sizesOf im) else fitsE (sizesOf im) w
theorem c82 (im : List (List Sec)) (w : Wr) (hl : im.length ≤ 4096000) (hm : ∀ l ∈ im, l.length < 4611686018427387904) (hw : w.data.length < 4611686018427387904) : Pu Tryz.prog (.fn (.func 82) [] []) [imgAV im, w.av] (I (fitsI im w)) := by
 refine pu_func Tryz.func82 rfl (by kernel_rfl) (by show _ ≤ 14; simp only [List.length_append, List.length_cons, List.length_nil]; decide) (by simp only [IDF, implies_true]) (by simp only [IDF, and_tt, implies_true]) (by simp only [IDF, img_idf, wr_idf, and_tt, implies_true]) ?_
 rw [Tryz.ntmps82]
 refine wpT_seq ?_
 refine wpT_region (by kernel_rfl) (fun K hK => ?_)
 simp only [↓SP, SZ, ↓reduceIte, reduceCtorEq, nE, nA, nL, nT, wr_okc]
 refine hK _ _ ?_
 clear hK K
 refine wpT_seq ?_
 refine wpT_seq ?_
 refine wpT_region (by kernel_rfl) (fun K hK => ?_)
 simp only [↓SP, SZ, ↓reduceIte, reduceCtorEq, nE, nA, nL, nT]
 refine Pu.call (c33 im hl) ?_
 simp only [↓SP, SZ, ↓reduceIte, reduceCtorEq, nE, nA, nL, nT]
 refine hK _ _ ?_
 clear hK K
 refine wpT_seq ?_
 refine wpT_region (by kernel_rfl) (fun K hK => ?_)
 simp only [↓SP, SZ, ↓reduceIte, reduceCtorEq, nE, nA, nL, nT]
 refine hK _ _ ?_
 clear hK K
 refine wpT_if (by rfl) (fun hc9 => ?_) (fun hc9 => ?_)
 ·
  have p9 := hc9
  try simp only [PB] at p9
  have hx : fitsI im w = sizesE (sizesOf im) := if_pos p9
  refine wpT_seq ?_
  refine wpT_region (by kernel_rfl) (fun K hK => ?_)
  simp only [↓SP, SZ, ↓reduceIte, reduceCtorEq, nE, nA, nL, nT, hc9]
  refine hK _ _ ?_
  clear hK K
  refine wpT_ret ⟨.inr rfl, ?_⟩
  show optK (resA _ _ _ [.tmp 4]) _
  simp only [SRO, ↓SP, SZ, ↓reduceIte, reduceCtorEq, nE, nA, nL, nT, hc9]
  refine Lend.eq ?_
  rw [hx]
 ·
  have p9 := hc9
  try simp only [PB] at p9
  have hx : fitsI im w = fitsE (sizesOf im) w := if_neg (by omega)
  refine wpT_skip ?_
  refine wpT_seq ?_
  refine wpT_region (by kernel_rfl) (fun K hK => ?_)
  simp only [↓SP, SZ, ↓reduceIte, reduceCtorEq, nE, nA, nL, nT, wr_ld, hc9]
  refine Pu.call (c92 im w (by omega) hm hw) ?_
  simp only [↓SP, SZ, ↓reduceIte, reduceCtorEq, nE, nA, nL, nT, wr_ld, hc9]
  refine hK _ _ ?_
  clear hK K
  refine wpT_ret ⟨.inr rfl, ?_⟩
  show optK (resA _ _ _ [.tmp 4]) _
  simp only [SRO, ↓SP, SZ, ↓reduceIte, reduceCtorEq, nE, nA, nL, nT, hc9]
  refine Lend.eq ?_
  rw [hx]
theorem sizes_new {sz : List Int} (h : sizesE sz = 0) : sizesOf (newImg sz) = sz := by
  have hz := sizesE_le h
  unfold newImg sizesOf
  rw [if_neg (by omega), List.map_map]
  conv => rhs; rw [← List.map_id sz]
  refine List.map_congr_left fun x hx => ?_
  have := hz x hx
  simp [zeros]
  omega
theorem new_lens {sz : List Int} (h : sizesE sz = 0) : (newImg sz).length ≤ 8 ∧ ∀ l ∈ newImg sz, l.length < 4611686018427387904 := by
  have hz := sizesE_le h
  have h8 : sz.length ≤ 8 := by
    unfold sizesE at h
    split at h
    · simp at h
    · omega
  unfold newImg
  rw [if_neg (by omega)]
  refine ⟨by simpa using h8, fun l hl => ?_⟩
  obtain ⟨x, hx, rfl⟩ := List.mem_map.1 hl
  have := hz x hx
  simp [zeros]
  omega
theorem fits_new {sz : List Int} (h : sizesE sz = 0) (w : Wr) : fitsI (newImg sz) w = fitsE sz w := by
  unfold fitsI
  rw [sizes_new h, if_neg (by omega)]
end Go.Proofs.YtfdfkmcplhloaaaGreat
end

section
set_option linter.unusedSimpArgs false
set_option linter.unusedVariables false
namespace Go.Proofs.YtfdfkmcplhloaaaGreat
open Go.Proofs
open Nat renaming reduceEqDiff → nE, reduceAdd → nA, reduceLeDiff → nL, reduceLT → nT
def fitsAll (sz : List Int) : List Wr → Int
  | [] => 0
  | w :: ws => if fitsE sz w ≠ 0 then fitsE sz w else fitsAll sz ws
/-- The places of the events of each write, -1 for an acknowledgement that is missing. -/
structure TL where
  (iss ack : List Int)
def evE (n : Nat) (t : TL) (x : Evn) : Int :=
  if x.kind = 0 then (if x.wr ≠ t.iss.length ∨ x.wr ≥ n then 3 else 0)
  else if x.kind = 1 then (if x.wr < 0 ∨ x.wr ≥ t.iss.length then 7 else if t.ack.getD x.wr.toNat 0 ≥ 0 then 8 else 0)
  else 3
def evS (k : Nat) (t : TL) (x : Evn) : TL := if x.kind = 0 then ⟨t.iss ++ [(k : Int)], t.ack ++ [-1]⟩ else ⟨t.iss, t.ack.set x.wr.toNat k⟩
def evRun (n : Nat) : Nat → TL → List Evn → Int × TL
  | _, t, [] => (0, t)
  | k, t, x :: xs => if evE n t x ≠ 0 then (evE n t x, t) else evRun n (k + 1) (evS k t x) xs
def histRun (h : Hist) : Int × TL := evRun h.ws.length 0 ⟨[], []⟩ h.evs
def histE (h : Hist) : Int :=
  if sizesE h.sizes ≠ 0 then sizesE h.sizes else if h.ws.length > 4096 then 6 else if fitsAll h.sizes h.ws ≠ 0 then fitsAll h.sizes h.ws else
  if (histRun h).1 ≠ 0 then (histRun h).1 else if (histRun h).2.iss.length < h.ws.length then 3 else 0
/-- What holds of a timeline behind k events. -/
structure TL.good (n k : Nat) (t : TL) : Prop where
  len : t.ack.length = t.iss.length
  le : t.iss.length ≤ n
  iss : ∀ x ∈ t.iss, 0 ≤ x ∧ x < k
  ack : ∀ x ∈ t.ack, -1 ≤ x ∧ x < k
theorem evS_good {n k : Nat} {t : TL} {x : Evn} (h : t.good n k) (he : evE n t x = 0) : (evS k t x).good n (k + 1) := by
  unfold evS
  unfold evE at he
  by_cases h0 : x.kind = 0
  · rw [if_pos h0] at he ⊢
    have hn : x.wr = t.iss.length ∧ x.wr < n := by
      split at he
      · simp at he
      · omega
    refine ⟨by simp [h.len], by simp; omega, fun y hy => ?_, fun y hy => ?_⟩
    · rcases List.mem_append.1 hy with hy | hy
      · have := h.iss y hy; omega
      · simp at hy; omega
    · rcases List.mem_append.1 hy with hy | hy
      · have := h.ack y hy; omega
      · simp at hy; omega
  · rw [if_neg h0] at he ⊢
    refine ⟨by simp [h.len], h.le, fun y hy => ?_, fun y hy => ?_⟩
    · have := h.iss y hy; omega
    · rcases List.mem_or_eq_of_mem_set hy with hy | rfl
      · have := h.ack y hy; omega
      · omega
theorem evRun_good {n : Nat} : ∀ {xs : List Evn} {k : Nat} {t : TL}, t.good n k → ∃ k', k' ≤ k + xs.length ∧ (evRun n k t xs).2.good n k'
  | [], k, t, h => ⟨k, by simp, h⟩
  | x :: xs, k, t, h => by
    rw [evRun]
    split
    · exact ⟨k, by omega, h⟩
    · rename_i he
      obtain ⟨k', h1, h2⟩ := evRun_good (xs := xs) (evS_good h (Classical.not_not.1 he))
      exact ⟨k', by simp only [List.length_cons]; omega, h2⟩
theorem tl0_good (n : Nat) : TL.good n 0 ⟨[], []⟩ := ⟨rfl, by simp, by simp, by simp⟩
/-- What a history without an error has. -/
theorem hist_ok {h : Hist} (hE : histE h = 0) : sizesE h.sizes = 0 ∧ h.ws.length ≤ 4096 ∧ fitsAll h.sizes h.ws = 0 ∧ (histRun h).1 = 0 ∧ (histRun h).2.iss.length = h.ws.length ∧ (histRun h).2.ack.length = h.ws.length ∧
    (∀ x ∈ (histRun h).2.iss, 0 ≤ x ∧ x < h.evs.length) ∧ ∀ x ∈ (histRun h).2.ack, -1 ≤ x ∧ x < h.evs.length := by
  unfold histE at hE
  by_cases h1 : sizesE h.sizes = 0
  · rw [if_neg (by omega)] at hE
    by_cases h2 : h.ws.length > 4096
    · rw [if_pos h2] at hE; omega
    · rw [if_neg h2] at hE
      by_cases h3 : fitsAll h.sizes h.ws = 0
      · rw [if_neg (by omega)] at hE
        by_cases h4 : (histRun h).1 = 0
        · rw [if_neg (by omega)] at hE
          by_cases h5 : (histRun h).2.iss.length < h.ws.length
          · rw [if_pos h5] at hE; omega
          · obtain ⟨k', h6, h7⟩ := evRun_good (xs := h.evs) (tl0_good h.ws.length)
            have h8 : (histRun h).2.good h.ws.length k' := h7
            have h9 := h8.le
            refine ⟨h1, by omega, h3, h4, by omega, by rw [h8.len]; omega, fun x hx => ?_, fun x hx => ?_⟩
            · have := h8.iss x hx; omega
            · have := h8.ack x hx; omega
        · rw [if_pos h4] at hE; omega
      · rw [if_pos h3] at hE; omega
  · rw [if_pos h1] at hE; omega
theorem fitsAll_mem {sz : List Int} : ∀ {ws : List Wr}, fitsAll sz ws = 0 → ∀ w ∈ ws, fitsE sz w = 0
  | [], _ => by simp
  | w :: ws, h => by
    rw [fitsAll] at h
    split at h
    · omega
    · intro y hy
      rcases List.mem_cons.1 hy with rfl | hy
      · omega
      · exact fitsAll_mem h y hy
/-- Whether write a is before write b. -/
def befT (t : TL) (a b : Nat) : Bool := decide (t.ack.getD a 0 ≥ 0) && decide (t.ack.getD a 0 < t.iss.getD b 0)
/-- Whether a list is a set of numbers below n, all above p. -/
def setP (n : Nat) : Int → List Int → Bool
  | _, [] => true
  | p, x :: xs => if x < 0 ∨ x ≥ n ∨ x ≤ p then false else setP n x xs
/-- The numbers below n with a property. -/
def selN (p : Nat → Bool) : Nat → List Int
  | 0 => []
  | n + 1 => selN p n ++ if p n = true then [(n : Int)] else []
/-- The numbers, from i on, of the places at which a list is true. -/
def memF : Nat → List Bool → List Int
  | _, [] => []
  | i, b :: bs => if b = true then (i : Int) :: memF (i + 1) bs else memF (i + 1) bs
theorem memF_append : ∀ (i : Nat) (xs ys : List Bool), memF i (xs ++ ys) = memF i xs ++ memF (i + xs.length) ys
  | i, [], ys => rfl
  | i, x :: xs, ys => by
    rw [List.cons_append, memF, memF, memF_append (i + 1) xs ys, List.length_cons, show i + (xs.length + 1) = i + 1 + xs.length by omega]
    split <;> simp
theorem memF_sel (ms : List Bool) : ∀ k, k ≤ ms.length → memF 0 (ms.take k) = selN (fun i => ms.getD i false) k
  | 0, _ => by simp [memF, selN]
  | k + 1, h => by
    have hlt : k < ms.length := by omega
    rw [List.take_add_one, List.getElem?_eq_getElem hlt, memF_append, memF_sel ms k (by omega), selN]
    simp only [Option.toList_some, memF, List.length_take, Nat.zero_add, Nat.min_eq_left (Nat.le_of_lt hlt)]
    have e : ms.getD k false = ms[k] := by simp [hlt]
    rw [e]
theorem memF_eq (ms : List Bool) : memF 0 ms = selN (fun i => ms.getD i false) ms.length := by
  have := memF_sel ms ms.length (Nat.le_refl _)
  rwa [List.take_length] at this
theorem mem_memF : ∀ {ms : List Bool} {i : Nat} {x : Int}, x ∈ memF i ms ↔ ∃ k : Nat, x = ((i + k : Nat) : Int) ∧ ms[k]? = some true
  | [], i, x => by simp [memF]
  | b :: ms, i, x => by
    rw [memF]
    have ih := mem_memF (ms := ms) (i := i + 1) (x := x)
    constructor
    · intro h
      split at h
      · rename_i hb
        rcases List.mem_cons.1 h with rfl | h
        · exact ⟨0, by simp, by simp [hb]⟩
        · obtain ⟨k, h1, h2⟩ := ih.1 h
          exact ⟨k + 1, by rw [h1]; congr 1; omega, by simpa using h2⟩
      · obtain ⟨k, h1, h2⟩ := ih.1 h
        exact ⟨k + 1, by rw [h1]; congr 1; omega, by simpa using h2⟩
    · rintro ⟨k, h1, h2⟩
      cases k with
      | zero =>
        simp at h2
        rw [if_pos h2]
        simp at h1
        rw [h1]; simp
      | succ k =>
        have : x ∈ memF (i + 1) ms := ih.2 ⟨k, by rw [h1]; congr 1; omega, by simpa using h2⟩
        split
        · exact List.mem_cons_of_mem _ this
        · exact this
theorem mem_selN {p : Nat → Bool} : ∀ {n : Nat} {x : Int}, x ∈ selN p n ↔ ∃ k : Nat, x = k ∧ k < n ∧ p k = true
  | 0, x => by simp [selN]
  | n + 1, x => by
    rw [selN, List.mem_append, mem_selN]
    constructor
    · rintro (⟨k, h1, h2, h3⟩ | h)
      · exact ⟨k, h1, by omega, h3⟩
      · split at h
        · rename_i hp
          simp at h
          exact ⟨n, h, by omega, hp⟩
        · simp at h
    · rintro ⟨k, h1, h2, h3⟩
      by_cases hk : k = n
      · subst hk
        right
        rw [if_pos h3]
        simp [h1]
      · exact .inl ⟨k, h1, by omega, h3⟩
theorem selN_congr {p q : Nat → Bool} : ∀ {n : Nat}, (∀ k, k < n → p k = q k) → selN p n = selN q n
  | 0, _ => rfl
  | n + 1, h => by rw [selN, selN, selN_congr fun k hk => h k (by omega), h n (by omega)]
theorem selN_length (p : Nat → Bool) : ∀ n, (selN p n).length ≤ n
  | 0 => by simp [selN]
  | n + 1 => by
    have := selN_length p n
    rw [selN, List.length_append]
    split <;> simp <;> omega
/-- The marks of a list. -/
def markL (n : Nat) (l : List Int) : List Bool := (List.range n).map fun i : Nat => decide ((i : Int) ∈ l)
theorem markL_length (n : Nat) (l : List Int) : (markL n l).length = n := by simp [markL]
theorem markL_at {n : Nat} {l : List Int} {i : Nat} (h : i < n) : (markL n l)[i]? = some (decide ((i : Int) ∈ l)) := by simp [markL, h]
theorem markL_getD {n : Nat} {l : List Int} {i : Nat} (h : i < n) : (markL n l).getD i false = decide ((i : Int) ∈ l) := by rw [List.getD_eq_getElem?_getD, markL_at h]; rfl
theorem setP_mem {n : Nat} : ∀ {p : Int} {l : List Int}, setP n p l = true → ∀ x ∈ l, 0 ≤ x ∧ x < n ∧ p < x
  | _, [], _ => by simp
  | p, x :: xs, h => by
    rw [setP] at h
    split at h
    · simp at h
    · intro y hy
      rcases List.mem_cons.1 hy with rfl | hy
      · omega
      · have := setP_mem h y hy
        omega
/-- A sorted list with the members that another one has is that one. -/
theorem setP_ext {n : Nat} : ∀ {p q : Int} {l m : List Int}, setP n p l = true → setP n q m = true → (∀ x, x ∈ l ↔ x ∈ m) → l = m
  | _, _, [], [], _, _, _ => rfl
  | _, _, [], y :: ys, _, _, h => by have := (h y).2 (by simp); simp at this
  | _, _, x :: xs, [], _, _, h => by have := (h x).1 (by simp); simp at this
  | p, q, x :: xs, y :: ys, h1, h2, h => by
    rw [setP] at h1 h2
    split at h1
    · simp at h1
    · split at h2
      · simp at h2
      · have a1 := setP_mem h1
        have a2 := setP_mem h2
        have e : x = y := by
          rcases List.mem_cons.1 ((h x).1 (by simp)) with e | e
          · exact e
          · rcases List.mem_cons.1 ((h y).2 (by simp)) with e' | e'
            · exact e'.symm
            · have := a2 x e; have := a1 y e'; omega
        subst e
        rw [setP_ext h1 h2 fun z => ?_]
        constructor
        · intro hz
          rcases List.mem_cons.1 ((h z).1 (by simp [hz])) with e | e
          · have := a1 z hz; omega
          · exact e
        · intro hz
          rcases List.mem_cons.1 ((h z).2 (by simp [hz])) with e | e
          · have := a2 z hz; omega
          · exact e
theorem setP_weak {n : Nat} {p q : Int} (hq : q ≤ p) : ∀ {l : List Int}, setP n p l = true → setP n q l = true
  | [], _ => rfl
  | x :: xs, h => by
    rw [setP] at h ⊢
    split at h
    · simp at h
    · rw [if_neg (by omega)]; exact h
theorem setP_snoc {n : Nat} {y : Int} : ∀ {p : Int} {l : List Int}, setP n p l = true → (∀ x ∈ l, x < y) → p < y → 0 ≤ y → y < n → setP n p (l ++ [y]) = true
  | p, [], _, _, h1, h2, h3 => by simp only [List.nil_append, setP]; rw [if_neg (by omega)]
  | p, x :: xs, h, hl, _, h2, h3 => by
    rw [setP] at h
    split at h
    · simp at h
    · rw [List.cons_append, setP, if_neg (by omega)]
      exact setP_snoc h (fun z hz => hl z (by simp [hz])) (hl x (by simp)) h2 h3
theorem setP_sel {p : Nat → Bool} {m : Nat} : ∀ {n : Nat}, n ≤ m → setP m (-1) (selN p n) = true
  | 0, _ => rfl
  | n + 1, h => by
    rw [selN]
    have ih := setP_sel (p := p) (m := m) (n := n) (by omega)
    split
    · refine setP_snoc ih (fun x hx => ?_) (by omega) (by omega) (by omega)
      obtain ⟨k, rfl, h2, _⟩ := mem_selN.1 hx
      omega
    · simpa using ih
theorem memF_mark {n : Nat} {l : List Int} (h : setP n (-1) l = true) : memF 0 (markL n l) = l := by
  rw [memF_eq, markL_length]
  refine setP_ext (setP_sel (Nat.le_refl n)) h fun x => ?_
  rw [mem_selN]
  constructor
  · rintro ⟨k, rfl, h2, h3⟩
    rw [markL_getD h2] at h3
    simpa using h3
  · intro hx
    obtain ⟨a, b, _⟩ := setP_mem h x hx
    refine ⟨x.toNat, by omega, by omega, ?_⟩
    rw [markL_getD (by omega)]
    simp [Int.toNat_of_nonneg a, hx]
def leastR (t : TL) (n : Nat) (l : List Int) : List Int := selN (fun a => decide ((a : Int) ∈ l) || l.any fun b => befT t a b.toNat) n
def greatR (t : TL) (n : Nat) (l : List Int) : List Int := selN (fun b => decide ((b : Int) ∈ l) && (List.range n).all fun a => decide ((a : Int) ∈ l) || !befT t a b) n
def Hist.sm (h : Hist) : Prop := h.sizes.length < 4000000 ∧ h.ws.length < 4000000 ∧ h.evs.length < 4000000 ∧ ∀ w ∈ h.ws, w.data.length < 4000000
theorem Hist.sm.ok {h : Hist} (s : h.sm) : h.ok := ⟨by have := s.1; omega, by have := s.2.1; omega, by have := s.2.2.1; omega, fun w hw => by have := s.2.2.2 w hw; unfold Wr.ok; omega⟩
end Go.Proofs.YtfdfkmcplhloaaaGreat
end
