/- Facts of the types of the program, as the abstract logic asks for them. Printed by an own program; each is checked by the kernel.
  The values of the program's types, as the abstract logic writes them: numbers, sectors, writes, histories, images.
  What is read as a sector, a write, an event, a history, an image.
  Walks: equality of lists of numbers and sectors.
  Walks: equality of lists of writes.
  Walks: the reference's checks of sizes and writes.
  Walks: the program's checks of sizes: searches with functions.
  Walks: images of zero sectors; what fits an image.
  Walks: what fits an image.
  What a history says: its error, its timeline. -/
import Derived.Test.YtfdfkmcplhloaaaB3
import Derived.Test.YtfdfkmcplhloaaaProg
section
set_option linter.unusedSimpArgs false
set_option linter.unusedVariables false
namespace Go.Proofs.Ytfdfkmcplhloaaa
open Go.Proofs
theorem agg3 : aggT Try.prog 3 = some false := by kernel_rfl
theorem cel3 : Try.prog.cellsOf 3 = 1 := by kernel_rfl
theorem pa3 : ∀ (cs : List AV) (o : Nat), partA Try.prog 3 cs o = cs[o]? := paT agg3
theorem lv3 : ∀ (v : AV) (o : Nat), loadV Try.prog 3 v o = v.cells[o]? := lvT agg3
theorem st3 : ∀ (id tot i off : Nat) (x : AV) (g : Nat → Option Ob), opStore Try.prog 3 (.ptr id tot i off) x g = stO 1 id tot i off x (g id) := stT cel3 rfl
theorem zr3 : zeroA Try.prog 3 = some (.int .i64 0) := by kernel_rfl
theorem by3 : Try.prog.bytesOf 3 = 8 := by kernel_rfl
theorem zo3 : zeroOk Try.prog 3 = true := by kernel_rfl
theorem agg4 : aggT Try.prog 4 = some false := by kernel_rfl
theorem cel4 : Try.prog.cellsOf 4 = 1 := by kernel_rfl
theorem pa4 : ∀ (cs : List AV) (o : Nat), partA Try.prog 4 cs o = cs[o]? := paT agg4
theorem lv4 : ∀ (v : AV) (o : Nat), loadV Try.prog 4 v o = v.cells[o]? := lvT agg4
theorem st4 : ∀ (id tot i off : Nat) (x : AV) (g : Nat → Option Ob), opStore Try.prog 4 (.ptr id tot i off) x g = stO 1 id tot i off x (g id) := stT cel4 rfl
theorem zr4 : zeroA Try.prog 4 = some (.bool false) := by kernel_rfl
theorem by4 : Try.prog.bytesOf 4 = 1 := by kernel_rfl
theorem zo4 : zeroOk Try.prog 4 = true := by kernel_rfl
theorem ib4 : isBoolT Try.prog 4 = true := by kernel_rfl
theorem agg5 : aggT Try.prog 5 = some false := by kernel_rfl
theorem cel5 : Try.prog.cellsOf 5 = 1 := by kernel_rfl
theorem pa5 : ∀ (cs : List AV) (o : Nat), partA Try.prog 5 cs o = cs[o]? := paT agg5
theorem lv5 : ∀ (v : AV) (o : Nat), loadV Try.prog 5 v o = v.cells[o]? := lvT agg5
theorem st5 : ∀ (id tot i off : Nat) (x : AV) (g : Nat → Option Ob), opStore Try.prog 5 (.ptr id tot i off) x g = stO 1 id tot i off x (g id) := stT cel5 rfl
theorem zr5 : zeroA Try.prog 5 = some (.int .u8 0) := by kernel_rfl
theorem by5 : Try.prog.bytesOf 5 = 1 := by kernel_rfl
theorem zo5 : zeroOk Try.prog 5 = true := by kernel_rfl
theorem agg22 : aggT Try.prog 22 = some false := by kernel_rfl
theorem cel22 : Try.prog.cellsOf 22 = 1 := by kernel_rfl
theorem pa22 : ∀ (cs : List AV) (o : Nat), partA Try.prog 22 cs o = cs[o]? := paT agg22
theorem lv22 : ∀ (v : AV) (o : Nat), loadV Try.prog 22 v o = v.cells[o]? := lvT agg22
theorem st22 : ∀ (id tot i off : Nat) (x : AV) (g : Nat → Option Ob), opStore Try.prog 22 (.ptr id tot i off) x g = stO 1 id tot i off x (g id) := stT cel22 rfl
theorem zr22 : zeroA Try.prog 22 = some .nil0 := by kernel_rfl
theorem by22 : Try.prog.bytesOf 22 = 24 := by kernel_rfl
theorem zo22 : zeroOk Try.prog 22 = true := by kernel_rfl
theorem agg23 : aggT Try.prog 23 = some false := by kernel_rfl
theorem cel23 : Try.prog.cellsOf 23 = 1 := by kernel_rfl
theorem pa23 : ∀ (cs : List AV) (o : Nat), partA Try.prog 23 cs o = cs[o]? := paT agg23
theorem lv23 : ∀ (v : AV) (o : Nat), loadV Try.prog 23 v o = v.cells[o]? := lvT agg23
theorem st23 : ∀ (id tot i off : Nat) (x : AV) (g : Nat → Option Ob), opStore Try.prog 23 (.ptr id tot i off) x g = stO 1 id tot i off x (g id) := stT cel23 rfl
theorem zr23 : zeroA Try.prog 23 = some .nil0 := by kernel_rfl
theorem agg24 : aggT Try.prog 24 = some false := by kernel_rfl
theorem cel24 : Try.prog.cellsOf 24 = 1 := by kernel_rfl
theorem pa24 : ∀ (cs : List AV) (o : Nat), partA Try.prog 24 cs o = cs[o]? := paT agg24
theorem lv24 : ∀ (v : AV) (o : Nat), loadV Try.prog 24 v o = v.cells[o]? := lvT agg24
theorem st24 : ∀ (id tot i off : Nat) (x : AV) (g : Nat → Option Ob), opStore Try.prog 24 (.ptr id tot i off) x g = stO 1 id tot i off x (g id) := stT cel24 rfl
theorem zr24 : zeroA Try.prog 24 = some .nil0 := by kernel_rfl
theorem agg26 : aggT Try.prog 26 = some true := by kernel_rfl
theorem cel26 : Try.prog.cellsOf 26 = 3 := by kernel_rfl
theorem pa26 : ∀ (cs : List AV) (o : Nat), partA Try.prog 26 cs o = if o + 3 ≤ cs.length then some (.agg ((cs.drop o).take 3)) else none := paT' agg26 cel26
theorem lv26 : ∀ (xs : List AV), loadV Try.prog 26 (.agg xs) 0 = if xs.length = 3 then some (.agg xs) else if 0 + 3 ≤ xs.length then some (.agg ((xs.drop 0).take 3)) else none := lvT' agg26 cel26
theorem st26 : ∀ (id tot i off : Nat) (x : AV) (g : Nat → Option Ob), opStore Try.prog 26 (.ptr id tot i off) x g = stO 3 id tot i off x (g id) := stT cel26 rfl
theorem zr26 : zeroA Try.prog 26 = some (.agg [.nil0, .nil0, .nil0]) := by kernel_rfl
theorem agg29 : aggT Try.prog 29 = some false := by kernel_rfl
theorem cel29 : Try.prog.cellsOf 29 = 1 := by kernel_rfl
theorem pa29 : ∀ (cs : List AV) (o : Nat), partA Try.prog 29 cs o = cs[o]? := paT agg29
theorem lv29 : ∀ (v : AV) (o : Nat), loadV Try.prog 29 v o = v.cells[o]? := lvT agg29
theorem st29 : ∀ (id tot i off : Nat) (x : AV) (g : Nat → Option Ob), opStore Try.prog 29 (.ptr id tot i off) x g = stO 1 id tot i off x (g id) := stT cel29 rfl
theorem zr29 : zeroA Try.prog 29 = some .nil0 := by kernel_rfl
theorem agg30 : aggT Try.prog 30 = some false := by kernel_rfl
theorem cel30 : Try.prog.cellsOf 30 = 1 := by kernel_rfl
theorem pa30 : ∀ (cs : List AV) (o : Nat), partA Try.prog 30 cs o = cs[o]? := paT agg30
theorem lv30 : ∀ (v : AV) (o : Nat), loadV Try.prog 30 v o = v.cells[o]? := lvT agg30
theorem st30 : ∀ (id tot i off : Nat) (x : AV) (g : Nat → Option Ob), opStore Try.prog 30 (.ptr id tot i off) x g = stO 1 id tot i off x (g id) := stT cel30 rfl
theorem zr30 : zeroA Try.prog 30 = some .nil0 := by kernel_rfl
theorem by30 : Try.prog.bytesOf 30 = 24 := by kernel_rfl
theorem zo30 : zeroOk Try.prog 30 = true := by kernel_rfl
theorem agg32 : aggT Try.prog 32 = some false := by kernel_rfl
theorem cel32 : Try.prog.cellsOf 32 = 1 := by kernel_rfl
theorem pa32 : ∀ (cs : List AV) (o : Nat), partA Try.prog 32 cs o = cs[o]? := paT agg32
theorem lv32 : ∀ (v : AV) (o : Nat), loadV Try.prog 32 v o = v.cells[o]? := lvT agg32
theorem st32 : ∀ (id tot i off : Nat) (x : AV) (g : Nat → Option Ob), opStore Try.prog 32 (.ptr id tot i off) x g = stO 1 id tot i off x (g id) := stT cel32 rfl
theorem zr32 : zeroA Try.prog 32 = some .nil0 := by kernel_rfl
theorem by32 : Try.prog.bytesOf 32 = 24 := by kernel_rfl
theorem zo32 : zeroOk Try.prog 32 = true := by kernel_rfl
theorem agg34 : aggT Try.prog 34 = some true := by kernel_rfl
theorem cel34 : Try.prog.cellsOf 34 = 3 := by kernel_rfl
theorem pa34 : ∀ (cs : List AV) (o : Nat), partA Try.prog 34 cs o = if o + 3 ≤ cs.length then some (.agg ((cs.drop o).take 3)) else none := paT' agg34 cel34
theorem lv34 : ∀ (xs : List AV), loadV Try.prog 34 (.agg xs) 0 = if xs.length = 3 then some (.agg xs) else if 0 + 3 ≤ xs.length then some (.agg ((xs.drop 0).take 3)) else none := lvT' agg34 cel34
theorem st34 : ∀ (id tot i off : Nat) (x : AV) (g : Nat → Option Ob), opStore Try.prog 34 (.ptr id tot i off) x g = stO 3 id tot i off x (g id) := stT cel34 rfl
theorem zr34 : zeroA Try.prog 34 = some (.agg [(.int .i64 0), (.int .i64 0), .nil0]) := by kernel_rfl
theorem by34 : Try.prog.bytesOf 34 = 40 := by kernel_rfl
theorem zo34 : zeroOk Try.prog 34 = true := by kernel_rfl
theorem agg35 : aggT Try.prog 35 = some false := by kernel_rfl
theorem cel35 : Try.prog.cellsOf 35 = 1 := by kernel_rfl
theorem pa35 : ∀ (cs : List AV) (o : Nat), partA Try.prog 35 cs o = cs[o]? := paT agg35
theorem lv35 : ∀ (v : AV) (o : Nat), loadV Try.prog 35 v o = v.cells[o]? := lvT agg35
theorem st35 : ∀ (id tot i off : Nat) (x : AV) (g : Nat → Option Ob), opStore Try.prog 35 (.ptr id tot i off) x g = stO 1 id tot i off x (g id) := stT cel35 rfl
theorem zr35 : zeroA Try.prog 35 = some (.int .i64 0) := by kernel_rfl
theorem agg44 : aggT Try.prog 44 = some true := by kernel_rfl
theorem cel44 : Try.prog.cellsOf 44 = 8 := by kernel_rfl
theorem pa44 : ∀ (cs : List AV) (o : Nat), partA Try.prog 44 cs o = if o + 8 ≤ cs.length then some (.agg ((cs.drop o).take 8)) else none := paT' agg44 cel44
theorem lv44 : ∀ (xs : List AV), loadV Try.prog 44 (.agg xs) 0 = if xs.length = 8 then some (.agg xs) else if 0 + 8 ≤ xs.length then some (.agg ((xs.drop 0).take 8)) else none := lvT' agg44 cel44
theorem st44 : ∀ (id tot i off : Nat) (x : AV) (g : Nat → Option Ob), opStore Try.prog 44 (.ptr id tot i off) x g = stO 8 id tot i off x (g id) := stT cel44 rfl
theorem zr44 : zeroA Try.prog 44 = some (.agg [(.int .u8 0), (.int .u8 0), (.int .u8 0), (.int .u8 0), (.int .u8 0), (.int .u8 0), (.int .u8 0), (.int .u8 0)]) := by kernel_rfl
theorem by44 : Try.prog.bytesOf 44 = 8 := by kernel_rfl
theorem zo44 : zeroOk Try.prog 44 = true := by kernel_rfl
theorem agg60 : aggT Try.prog 60 = some false := by kernel_rfl
theorem cel60 : Try.prog.cellsOf 60 = 1 := by kernel_rfl
theorem pa60 : ∀ (cs : List AV) (o : Nat), partA Try.prog 60 cs o = cs[o]? := paT agg60
theorem lv60 : ∀ (v : AV) (o : Nat), loadV Try.prog 60 v o = v.cells[o]? := lvT agg60
theorem st60 : ∀ (id tot i off : Nat) (x : AV) (g : Nat → Option Ob), opStore Try.prog 60 (.ptr id tot i off) x g = stO 1 id tot i off x (g id) := stT cel60 rfl
theorem zr60 : zeroA Try.prog 60 = some .nil0 := by kernel_rfl
theorem agg64 : aggT Try.prog 64 = some false := by kernel_rfl
theorem cel64 : Try.prog.cellsOf 64 = 1 := by kernel_rfl
theorem pa64 : ∀ (cs : List AV) (o : Nat), partA Try.prog 64 cs o = cs[o]? := paT agg64
theorem lv64 : ∀ (v : AV) (o : Nat), loadV Try.prog 64 v o = v.cells[o]? := lvT agg64
theorem st64 : ∀ (id tot i off : Nat) (x : AV) (g : Nat → Option Ob), opStore Try.prog 64 (.ptr id tot i off) x g = stO 1 id tot i off x (g id) := stT cel64 rfl
theorem zr64 : zeroA Try.prog 64 = some .nilm := by kernel_rfl
theorem agg65 : aggT Try.prog 65 = some false := by kernel_rfl
theorem cel65 : Try.prog.cellsOf 65 = 1 := by kernel_rfl
theorem pa65 : ∀ (cs : List AV) (o : Nat), partA Try.prog 65 cs o = cs[o]? := paT agg65
theorem lv65 : ∀ (v : AV) (o : Nat), loadV Try.prog 65 v o = v.cells[o]? := lvT agg65
theorem st65 : ∀ (id tot i off : Nat) (x : AV) (g : Nat → Option Ob), opStore Try.prog 65 (.ptr id tot i off) x g = stO 1 id tot i off x (g id) := stT cel65 rfl
theorem zr65 : zeroA Try.prog 65 = some .nilm := by kernel_rfl
theorem agg72 : aggT Try.prog 72 = some false := by kernel_rfl
theorem cel72 : Try.prog.cellsOf 72 = 1 := by kernel_rfl
theorem pa72 : ∀ (cs : List AV) (o : Nat), partA Try.prog 72 cs o = cs[o]? := paT agg72
theorem lv72 : ∀ (v : AV) (o : Nat), loadV Try.prog 72 v o = v.cells[o]? := lvT agg72
theorem st72 : ∀ (id tot i off : Nat) (x : AV) (g : Nat → Option Ob), opStore Try.prog 72 (.ptr id tot i off) x g = stO 1 id tot i off x (g id) := stT cel72 rfl
theorem zr72 : zeroA Try.prog 72 = some .nilp := by kernel_rfl
theorem agg83 : aggT Try.prog 83 = some true := by kernel_rfl
theorem cel83 : Try.prog.cellsOf 83 = 2 := by kernel_rfl
theorem pa83 : ∀ (cs : List AV) (o : Nat), partA Try.prog 83 cs o = if o + 2 ≤ cs.length then some (.agg ((cs.drop o).take 2)) else none := paT' agg83 cel83
theorem lv83 : ∀ (xs : List AV), loadV Try.prog 83 (.agg xs) 0 = if xs.length = 2 then some (.agg xs) else if 0 + 2 ≤ xs.length then some (.agg ((xs.drop 0).take 2)) else none := lvT' agg83 cel83
theorem st83 : ∀ (id tot i off : Nat) (x : AV) (g : Nat → Option Ob), opStore Try.prog 83 (.ptr id tot i off) x g = stO 2 id tot i off x (g id) := stT cel83 rfl
theorem zr83 : zeroA Try.prog 83 = some (.agg [.nil0, .nil0]) := by kernel_rfl
theorem agg85 : aggT Try.prog 85 = some true := by kernel_rfl
theorem cel85 : Try.prog.cellsOf 85 = 5 := by kernel_rfl
theorem pa85 : ∀ (cs : List AV) (o : Nat), partA Try.prog 85 cs o = if o + 5 ≤ cs.length then some (.agg ((cs.drop o).take 5)) else none := paT' agg85 cel85
theorem lv85 : ∀ (xs : List AV), loadV Try.prog 85 (.agg xs) 0 = if xs.length = 5 then some (.agg xs) else if 0 + 5 ≤ xs.length then some (.agg ((xs.drop 0).take 5)) else none := lvT' agg85 cel85
theorem st85 : ∀ (id tot i off : Nat) (x : AV) (g : Nat → Option Ob), opStore Try.prog 85 (.ptr id tot i off) x g = stO 5 id tot i off x (g id) := stT cel85 rfl
theorem zr85 : zeroA Try.prog 85 = some (.agg [.nil0, .nil0, .nil0, .nil0, .nil0]) := by kernel_rfl
theorem agg93 : aggT Try.prog 93 = some true := by kernel_rfl
theorem cel93 : Try.prog.cellsOf 93 = 2 := by kernel_rfl
theorem pa93 : ∀ (cs : List AV) (o : Nat), partA Try.prog 93 cs o = if o + 2 ≤ cs.length then some (.agg ((cs.drop o).take 2)) else none := paT' agg93 cel93
theorem lv93 : ∀ (xs : List AV), loadV Try.prog 93 (.agg xs) 0 = if xs.length = 2 then some (.agg xs) else if 0 + 2 ≤ xs.length then some (.agg ((xs.drop 0).take 2)) else none := lvT' agg93 cel93
theorem st93 : ∀ (id tot i off : Nat) (x : AV) (g : Nat → Option Ob), opStore Try.prog 93 (.ptr id tot i off) x g = stO 2 id tot i off x (g id) := stT cel93 rfl
theorem zr93 : zeroA Try.prog 93 = some (.agg [(.int .i64 0), (.int .i64 0)]) := by kernel_rfl
theorem by93 : Try.prog.bytesOf 93 = 16 := by kernel_rfl
theorem zo93 : zeroOk Try.prog 93 = true := by kernel_rfl
theorem agg95 : aggT Try.prog 95 = some false := by kernel_rfl
theorem cel95 : Try.prog.cellsOf 95 = 1 := by kernel_rfl
theorem pa95 : ∀ (cs : List AV) (o : Nat), partA Try.prog 95 cs o = cs[o]? := paT agg95
theorem lv95 : ∀ (v : AV) (o : Nat), loadV Try.prog 95 v o = v.cells[o]? := lvT agg95
theorem st95 : ∀ (id tot i off : Nat) (x : AV) (g : Nat → Option Ob), opStore Try.prog 95 (.ptr id tot i off) x g = stO 1 id tot i off x (g id) := stT cel95 rfl
theorem zr95 : zeroA Try.prog 95 = some .nilp := by kernel_rfl
theorem agg96 : aggT Try.prog 96 = some false := by kernel_rfl
theorem cel96 : Try.prog.cellsOf 96 = 1 := by kernel_rfl
theorem pa96 : ∀ (cs : List AV) (o : Nat), partA Try.prog 96 cs o = cs[o]? := paT agg96
theorem lv96 : ∀ (v : AV) (o : Nat), loadV Try.prog 96 v o = v.cells[o]? := lvT agg96
theorem st96 : ∀ (id tot i off : Nat) (x : AV) (g : Nat → Option Ob), opStore Try.prog 96 (.ptr id tot i off) x g = stO 1 id tot i off x (g id) := stT cel96 rfl
theorem zr96 : zeroA Try.prog 96 = some .nil0 := by kernel_rfl
theorem agg99 : aggT Try.prog 99 = some false := by kernel_rfl
theorem cel99 : Try.prog.cellsOf 99 = 1 := by kernel_rfl
theorem pa99 : ∀ (cs : List AV) (o : Nat), partA Try.prog 99 cs o = cs[o]? := paT agg99
theorem lv99 : ∀ (v : AV) (o : Nat), loadV Try.prog 99 v o = v.cells[o]? := lvT agg99
theorem st99 : ∀ (id tot i off : Nat) (x : AV) (g : Nat → Option Ob), opStore Try.prog 99 (.ptr id tot i off) x g = stO 1 id tot i off x (g id) := stT cel99 rfl
theorem zr99 : zeroA Try.prog 99 = some .nil0 := by kernel_rfl
theorem by99 : Try.prog.bytesOf 99 = 24 := by kernel_rfl
theorem zo99 : zeroOk Try.prog 99 = true := by kernel_rfl
theorem agg100 : aggT Try.prog 100 = some false := by kernel_rfl
theorem cel100 : Try.prog.cellsOf 100 = 1 := by kernel_rfl
theorem pa100 : ∀ (cs : List AV) (o : Nat), partA Try.prog 100 cs o = cs[o]? := paT agg100
theorem lv100 : ∀ (v : AV) (o : Nat), loadV Try.prog 100 v o = v.cells[o]? := lvT agg100
theorem st100 : ∀ (id tot i off : Nat) (x : AV) (g : Nat → Option Ob), opStore Try.prog 100 (.ptr id tot i off) x g = stO 1 id tot i off x (g id) := stT cel100 rfl
theorem zr100 : zeroA Try.prog 100 = some .nil0 := by kernel_rfl
theorem by100 : Try.prog.bytesOf 100 = 24 := by kernel_rfl
theorem zo100 : zeroOk Try.prog 100 = true := by kernel_rfl
theorem agg106 : aggT Try.prog 106 = some true := by kernel_rfl
theorem cel106 : Try.prog.cellsOf 106 = 4 := by kernel_rfl
theorem pa106 : ∀ (cs : List AV) (o : Nat), partA Try.prog 106 cs o = if o + 4 ≤ cs.length then some (.agg ((cs.drop o).take 4)) else none := paT' agg106 cel106
theorem lv106 : ∀ (xs : List AV), loadV Try.prog 106 (.agg xs) 0 = if xs.length = 4 then some (.agg xs) else if 0 + 4 ≤ xs.length then some (.agg ((xs.drop 0).take 4)) else none := lvT' agg106 cel106
theorem st106 : ∀ (id tot i off : Nat) (x : AV) (g : Nat → Option Ob), opStore Try.prog 106 (.ptr id tot i off) x g = stO 4 id tot i off x (g id) := stT cel106 rfl
theorem zr106 : zeroA Try.prog 106 = some (.agg [(.int .i64 0), (.int .i64 0), .nil0, .nil0]) := by kernel_rfl
theorem agg114 : aggT Try.prog 114 = some false := by kernel_rfl
theorem cel114 : Try.prog.cellsOf 114 = 1 := by kernel_rfl
theorem pa114 : ∀ (cs : List AV) (o : Nat), partA Try.prog 114 cs o = cs[o]? := paT agg114
theorem lv114 : ∀ (v : AV) (o : Nat), loadV Try.prog 114 v o = v.cells[o]? := lvT agg114
theorem st114 : ∀ (id tot i off : Nat) (x : AV) (g : Nat → Option Ob), opStore Try.prog 114 (.ptr id tot i off) x g = stO 1 id tot i off x (g id) := stT cel114 rfl
theorem zr114 : zeroA Try.prog 114 = some .nilf := by kernel_rfl
theorem agg117 : aggT Try.prog 117 = some false := by kernel_rfl
theorem cel117 : Try.prog.cellsOf 117 = 1 := by kernel_rfl
theorem pa117 : ∀ (cs : List AV) (o : Nat), partA Try.prog 117 cs o = cs[o]? := paT agg117
theorem lv117 : ∀ (v : AV) (o : Nat), loadV Try.prog 117 v o = v.cells[o]? := lvT agg117
theorem st117 : ∀ (id tot i off : Nat) (x : AV) (g : Nat → Option Ob), opStore Try.prog 117 (.ptr id tot i off) x g = stO 1 id tot i off x (g id) := stT cel117 rfl
theorem zr117 : zeroA Try.prog 117 = some .nil0 := by kernel_rfl
theorem agg122 : aggT Try.prog 122 = some true := by kernel_rfl
theorem cel122 : Try.prog.cellsOf 122 = 2 := by kernel_rfl
theorem pa122 : ∀ (cs : List AV) (o : Nat), partA Try.prog 122 cs o = if o + 2 ≤ cs.length then some (.agg ((cs.drop o).take 2)) else none := paT' agg122 cel122
theorem lv122 : ∀ (xs : List AV), loadV Try.prog 122 (.agg xs) 0 = if xs.length = 2 then some (.agg xs) else if 0 + 2 ≤ xs.length then some (.agg ((xs.drop 0).take 2)) else none := lvT' agg122 cel122
theorem st122 : ∀ (id tot i off : Nat) (x : AV) (g : Nat → Option Ob), opStore Try.prog 122 (.ptr id tot i off) x g = stO 2 id tot i off x (g id) := stT cel122 rfl
theorem zr122 : zeroA Try.prog 122 = some (.agg [(.int .i64 0), (.int .i64 0)]) := by kernel_rfl
theorem agg124 : aggT Try.prog 124 = some true := by kernel_rfl
theorem cel124 : Try.prog.cellsOf 124 = 10 := by kernel_rfl
theorem pa124 : ∀ (cs : List AV) (o : Nat), partA Try.prog 124 cs o = if o + 10 ≤ cs.length then some (.agg ((cs.drop o).take 10)) else none := paT' agg124 cel124
theorem lv124 : ∀ (xs : List AV), loadV Try.prog 124 (.agg xs) 0 = if xs.length = 10 then some (.agg xs) else if 0 + 10 ≤ xs.length then some (.agg ((xs.drop 0).take 10)) else none := lvT' agg124 cel124
theorem st124 : ∀ (id tot i off : Nat) (x : AV) (g : Nat → Option Ob), opStore Try.prog 124 (.ptr id tot i off) x g = stO 10 id tot i off x (g id) := stT cel124 rfl
theorem zr124 : zeroA Try.prog 124 = some (.agg [(.int .i64 0), (.int .i64 0), (.int .u8 0), (.int .u8 0), (.int .u8 0), (.int .u8 0), (.int .u8 0), (.int .u8 0), (.int .u8 0), (.int .u8 0)]) := by kernel_rfl
theorem agg126 : aggT Try.prog 126 = some false := by kernel_rfl
theorem cel126 : Try.prog.cellsOf 126 = 1 := by kernel_rfl
theorem pa126 : ∀ (cs : List AV) (o : Nat), partA Try.prog 126 cs o = cs[o]? := paT agg126
theorem lv126 : ∀ (v : AV) (o : Nat), loadV Try.prog 126 v o = v.cells[o]? := lvT agg126
theorem st126 : ∀ (id tot i off : Nat) (x : AV) (g : Nat → Option Ob), opStore Try.prog 126 (.ptr id tot i off) x g = stO 1 id tot i off x (g id) := stT cel126 rfl
theorem zr126 : zeroA Try.prog 126 = some .nilf := by kernel_rfl
theorem agg135 : aggT Try.prog 135 = some true := by kernel_rfl
theorem cel135 : Try.prog.cellsOf 135 = 5 := by kernel_rfl
theorem pa135 : ∀ (cs : List AV) (o : Nat), partA Try.prog 135 cs o = if o + 5 ≤ cs.length then some (.agg ((cs.drop o).take 5)) else none := paT' agg135 cel135
theorem lv135 : ∀ (xs : List AV), loadV Try.prog 135 (.agg xs) 0 = if xs.length = 5 then some (.agg xs) else if 0 + 5 ≤ xs.length then some (.agg ((xs.drop 0).take 5)) else none := lvT' agg135 cel135
theorem st135 : ∀ (id tot i off : Nat) (x : AV) (g : Nat → Option Ob), opStore Try.prog 135 (.ptr id tot i off) x g = stO 5 id tot i off x (g id) := stT cel135 rfl
theorem zr135 : zeroA Try.prog 135 = some (.agg [.nil0, .nil0, .nil0, .nil0, .nilm]) := by kernel_rfl
theorem agg136 : aggT Try.prog 136 = some false := by kernel_rfl
theorem cel136 : Try.prog.cellsOf 136 = 1 := by kernel_rfl
theorem pa136 : ∀ (cs : List AV) (o : Nat), partA Try.prog 136 cs o = cs[o]? := paT agg136
theorem lv136 : ∀ (v : AV) (o : Nat), loadV Try.prog 136 v o = v.cells[o]? := lvT agg136
theorem st136 : ∀ (id tot i off : Nat) (x : AV) (g : Nat → Option Ob), opStore Try.prog 136 (.ptr id tot i off) x g = stO 1 id tot i off x (g id) := stT cel136 rfl
theorem zr136 : zeroA Try.prog 136 = some .nilm := by kernel_rfl
theorem agg153 : aggT Try.prog 153 = some false := by kernel_rfl
theorem cel153 : Try.prog.cellsOf 153 = 1 := by kernel_rfl
theorem pa153 : ∀ (cs : List AV) (o : Nat), partA Try.prog 153 cs o = cs[o]? := paT agg153
theorem lv153 : ∀ (v : AV) (o : Nat), loadV Try.prog 153 v o = v.cells[o]? := lvT agg153
theorem st153 : ∀ (id tot i off : Nat) (x : AV) (g : Nat → Option Ob), opStore Try.prog 153 (.ptr id tot i off) x g = stO 1 id tot i off x (g id) := stT cel153 rfl
theorem zr153 : zeroA Try.prog 153 = some .nil0 := by kernel_rfl
theorem agg165 : aggT Try.prog 165 = some false := by kernel_rfl
theorem cel165 : Try.prog.cellsOf 165 = 1 := by kernel_rfl
theorem pa165 : ∀ (cs : List AV) (o : Nat), partA Try.prog 165 cs o = cs[o]? := paT agg165
theorem lv165 : ∀ (v : AV) (o : Nat), loadV Try.prog 165 v o = v.cells[o]? := lvT agg165
theorem st165 : ∀ (id tot i off : Nat) (x : AV) (g : Nat → Option Ob), opStore Try.prog 165 (.ptr id tot i off) x g = stO 1 id tot i off x (g id) := stT cel165 rfl
theorem zr165 : zeroA Try.prog 165 = some .nil0 := by kernel_rfl
theorem agg178 : aggT Try.prog 178 = some false := by kernel_rfl
theorem cel178 : Try.prog.cellsOf 178 = 1 := by kernel_rfl
theorem pa178 : ∀ (cs : List AV) (o : Nat), partA Try.prog 178 cs o = cs[o]? := paT agg178
theorem lv178 : ∀ (v : AV) (o : Nat), loadV Try.prog 178 v o = v.cells[o]? := lvT agg178
theorem st178 : ∀ (id tot i off : Nat) (x : AV) (g : Nat → Option Ob), opStore Try.prog 178 (.ptr id tot i off) x g = stO 1 id tot i off x (g id) := stT cel178 rfl
theorem zr178 : zeroA Try.prog 178 = some (.int .u64 0) := by kernel_rfl
theorem agg184 : aggT Try.prog 184 = some false := by kernel_rfl
theorem cel184 : Try.prog.cellsOf 184 = 1 := by kernel_rfl
theorem pa184 : ∀ (cs : List AV) (o : Nat), partA Try.prog 184 cs o = cs[o]? := paT agg184
theorem lv184 : ∀ (v : AV) (o : Nat), loadV Try.prog 184 v o = v.cells[o]? := lvT agg184
theorem st184 : ∀ (id tot i off : Nat) (x : AV) (g : Nat → Option Ob), opStore Try.prog 184 (.ptr id tot i off) x g = stO 1 id tot i off x (g id) := stT cel184 rfl
theorem zr184 : zeroA Try.prog 184 = some (.int .u64 0) := by kernel_rfl
theorem sle22 : sliceElem Try.prog 22 = some 3 := by kernel_rfl
theorem hi22 : hasInfo Try.prog 22 = true := by kernel_rfl
theorem ln22 : ∀ (xs : List AV) (g : Nat → Option Ob), opLen Try.prog 22 (.lst xs) g = some (.int .i64 xs.length) := lenT_lst sle22
theorem lz22 : ∀ (g : Nat → Option Ob), opLen Try.prog 22 .nil0 g = some (.int .i64 0) := lenT_nil0 sle22
theorem ls22 : ∀ (id tot off len : Nat) (g : Nat → Option Ob), opLen Try.prog 22 (.sl id tot off len) g = lenO tot len (g id) := lenT_sl sle22
theorem ia22 : ∀ (xs : List AV) (k : IntKind) (i : Nat) (g : Nat → Option Ob), opIndexAddr Try.prog 22 (.lst xs) (.int k i) g = idxO 1 xs[i]? := iaT_lst sle22 cel3
theorem iz22 : ∀ (xs : List AV) (k : IntKind) (g : Nat → Option Ob), opIndexAddr Try.prog 22 (.lst xs) (.int k 0) g = idxO 1 xs[0]? := iaT_lst0 sle22 cel3
theorem is22 : ∀ (id tot off len : Nat) (k : IntKind) (n : Int) (g : Nat → Option Ob), opIndexAddr Try.prog 22 (.sl id tot off len) (.int k n) g = iaO 1 id tot off len n (g id) := iaT_sl sle22 cel3
theorem ap22 : ∀ (s x : AV) (g : Nat → Option Ob) (nid : Nat), opAppend Try.prog 22 s x g nid = apO 3 1 8 nid s g (rdS g x) := apT sle22 zo3 cel3 by3
theorem bz22 : ∀ (nid : Nat), opBuildSlice Try.prog 22 0 [] nid = some (.nil0, .non) := bsT0 sle22 zo3
theorem bs22 : ∀ (parts : List (Nat × AV)) (nid : Nat), opBuildSlice Try.prog 22 1 parts nid = bsO 3 1 (.int .i64 0) 1 parts nid := bsT sle22 zo3 cel3 zr3 rfl rfl rfl
theorem ms22 : ∀ (k k' : IntKind) (n m : Int) (nid : Nat), opMakeSlice Try.prog 22 (.int k n) (.int k' m) nid = msO 3 1 8 (.int .i64 0) n m nid := msT sle22 zo3 cel3 by3 zr3 rfl rfl
theorem sle23 : sliceElem Try.prog 23 = some 34 := by kernel_rfl
theorem hi23 : hasInfo Try.prog 23 = true := by kernel_rfl
theorem ln23 : ∀ (xs : List AV) (g : Nat → Option Ob), opLen Try.prog 23 (.lst xs) g = some (.int .i64 xs.length) := lenT_lst sle23
theorem lz23 : ∀ (g : Nat → Option Ob), opLen Try.prog 23 .nil0 g = some (.int .i64 0) := lenT_nil0 sle23
theorem ls23 : ∀ (id tot off len : Nat) (g : Nat → Option Ob), opLen Try.prog 23 (.sl id tot off len) g = lenO tot len (g id) := lenT_sl sle23
theorem ia23 : ∀ (xs : List AV) (k : IntKind) (i : Nat) (g : Nat → Option Ob), opIndexAddr Try.prog 23 (.lst xs) (.int k i) g = idxO 3 xs[i]? := iaT_lst sle23 cel34
theorem iz23 : ∀ (xs : List AV) (k : IntKind) (g : Nat → Option Ob), opIndexAddr Try.prog 23 (.lst xs) (.int k 0) g = idxO 3 xs[0]? := iaT_lst0 sle23 cel34
theorem is23 : ∀ (id tot off len : Nat) (k : IntKind) (n : Int) (g : Nat → Option Ob), opIndexAddr Try.prog 23 (.sl id tot off len) (.int k n) g = iaO 3 id tot off len n (g id) := iaT_sl sle23 cel34
theorem ap23 : ∀ (s x : AV) (g : Nat → Option Ob) (nid : Nat), opAppend Try.prog 23 s x g nid = apO 34 3 40 nid s g (rdS g x) := apT sle23 zo34 cel34 by34
theorem bz23 : ∀ (nid : Nat), opBuildSlice Try.prog 23 0 [] nid = some (.nil0, .non) := bsT0 sle23 zo34
theorem bs23 : ∀ (parts : List (Nat × AV)) (nid : Nat), opBuildSlice Try.prog 23 1 parts nid = bsO 34 3 (.agg [(.int .i64 0), (.int .i64 0), .nil0]) 1 parts nid := bsT sle23 zo34 cel34 zr34 rfl rfl rfl
theorem ms23 : ∀ (k k' : IntKind) (n m : Int) (nid : Nat), opMakeSlice Try.prog 23 (.int k n) (.int k' m) nid = msO 34 3 40 (.agg [(.int .i64 0), (.int .i64 0), .nil0]) n m nid := msT sle23 zo34 cel34 by34 zr34 rfl rfl
theorem sle24 : sliceElem Try.prog 24 = some 93 := by kernel_rfl
theorem hi24 : hasInfo Try.prog 24 = true := by kernel_rfl
theorem ln24 : ∀ (xs : List AV) (g : Nat → Option Ob), opLen Try.prog 24 (.lst xs) g = some (.int .i64 xs.length) := lenT_lst sle24
theorem lz24 : ∀ (g : Nat → Option Ob), opLen Try.prog 24 .nil0 g = some (.int .i64 0) := lenT_nil0 sle24
theorem ls24 : ∀ (id tot off len : Nat) (g : Nat → Option Ob), opLen Try.prog 24 (.sl id tot off len) g = lenO tot len (g id) := lenT_sl sle24
theorem ia24 : ∀ (xs : List AV) (k : IntKind) (i : Nat) (g : Nat → Option Ob), opIndexAddr Try.prog 24 (.lst xs) (.int k i) g = idxO 2 xs[i]? := iaT_lst sle24 cel93
theorem iz24 : ∀ (xs : List AV) (k : IntKind) (g : Nat → Option Ob), opIndexAddr Try.prog 24 (.lst xs) (.int k 0) g = idxO 2 xs[0]? := iaT_lst0 sle24 cel93
theorem is24 : ∀ (id tot off len : Nat) (k : IntKind) (n : Int) (g : Nat → Option Ob), opIndexAddr Try.prog 24 (.sl id tot off len) (.int k n) g = iaO 2 id tot off len n (g id) := iaT_sl sle24 cel93
theorem ap24 : ∀ (s x : AV) (g : Nat → Option Ob) (nid : Nat), opAppend Try.prog 24 s x g nid = apO 93 2 16 nid s g (rdS g x) := apT sle24 zo93 cel93 by93
theorem bz24 : ∀ (nid : Nat), opBuildSlice Try.prog 24 0 [] nid = some (.nil0, .non) := bsT0 sle24 zo93
theorem bs24 : ∀ (parts : List (Nat × AV)) (nid : Nat), opBuildSlice Try.prog 24 1 parts nid = bsO 93 2 (.agg [(.int .i64 0), (.int .i64 0)]) 1 parts nid := bsT sle24 zo93 cel93 zr93 rfl rfl rfl
theorem ms24 : ∀ (k k' : IntKind) (n m : Int) (nid : Nat), opMakeSlice Try.prog 24 (.int k n) (.int k' m) nid = msO 93 2 16 (.agg [(.int .i64 0), (.int .i64 0)]) n m nid := msT sle24 zo93 cel93 by93 zr93 rfl rfl
theorem fo26x0 : fieldTO Try.prog 26 0 = some (22, 0) := by kernel_rfl
theorem fp26x0 : ∀ (id tot i off : Nat), opFieldAddr Try.prog 26 (.ptr id tot i off) 0 = some (.ptr id tot i (off + 0)) := fpT fo26x0 (by kernel_rfl)
theorem fc26x0 : ∀ (v : AV), opFieldAddr Try.prog 26 (.cptr v) 0 = fcO false (partA Try.prog 22 v.cells 0) := fcT fo26x0 (by kernel_rfl) (by kernel_rfl)
theorem fg26x0 : ∀ (xs : List AV), opField Try.prog 26 (.agg xs) 0 = partA Try.prog 22 xs 0 := fgT fo26x0
theorem fo26x1 : fieldTO Try.prog 26 1 = some (23, 1) := by kernel_rfl
theorem fp26x1 : ∀ (id tot i off : Nat), opFieldAddr Try.prog 26 (.ptr id tot i off) 1 = some (.ptr id tot i (off + 1)) := fpT fo26x1 (by kernel_rfl)
theorem fc26x1 : ∀ (v : AV), opFieldAddr Try.prog 26 (.cptr v) 1 = fcO false (partA Try.prog 23 v.cells 1) := fcT fo26x1 (by kernel_rfl) (by kernel_rfl)
theorem fg26x1 : ∀ (xs : List AV), opField Try.prog 26 (.agg xs) 1 = partA Try.prog 23 xs 1 := fgT fo26x1
theorem fo26x2 : fieldTO Try.prog 26 2 = some (24, 2) := by kernel_rfl
theorem fp26x2 : ∀ (id tot i off : Nat), opFieldAddr Try.prog 26 (.ptr id tot i off) 2 = some (.ptr id tot i (off + 2)) := fpT fo26x2 (by kernel_rfl)
theorem fc26x2 : ∀ (v : AV), opFieldAddr Try.prog 26 (.cptr v) 2 = fcO false (partA Try.prog 24 v.cells 2) := fcT fo26x2 (by kernel_rfl) (by kernel_rfl)
theorem fg26x2 : ∀ (xs : List AV), opField Try.prog 26 (.agg xs) 2 = partA Try.prog 24 xs 2 := fgT fo26x2
theorem bd26 : ∀ parts : List (Nat × AV), opBuild Try.prog 26 parts = bdO [(0, 1), (1, 1), (2, 1)] [.nil0, .nil0, .nil0] parts := bdT (by kernel_rfl) zr26
theorem sle29 : sliceElem Try.prog 29 = some 32 := by kernel_rfl
theorem hi29 : hasInfo Try.prog 29 = true := by kernel_rfl
theorem ln29 : ∀ (xs : List AV) (g : Nat → Option Ob), opLen Try.prog 29 (.lst xs) g = some (.int .i64 xs.length) := lenT_lst sle29
theorem lz29 : ∀ (g : Nat → Option Ob), opLen Try.prog 29 .nil0 g = some (.int .i64 0) := lenT_nil0 sle29
theorem ls29 : ∀ (id tot off len : Nat) (g : Nat → Option Ob), opLen Try.prog 29 (.sl id tot off len) g = lenO tot len (g id) := lenT_sl sle29
theorem ia29 : ∀ (xs : List AV) (k : IntKind) (i : Nat) (g : Nat → Option Ob), opIndexAddr Try.prog 29 (.lst xs) (.int k i) g = idxO 1 xs[i]? := iaT_lst sle29 cel32
theorem iz29 : ∀ (xs : List AV) (k : IntKind) (g : Nat → Option Ob), opIndexAddr Try.prog 29 (.lst xs) (.int k 0) g = idxO 1 xs[0]? := iaT_lst0 sle29 cel32
theorem is29 : ∀ (id tot off len : Nat) (k : IntKind) (n : Int) (g : Nat → Option Ob), opIndexAddr Try.prog 29 (.sl id tot off len) (.int k n) g = iaO 1 id tot off len n (g id) := iaT_sl sle29 cel32
theorem ap29 : ∀ (s x : AV) (g : Nat → Option Ob) (nid : Nat), opAppend Try.prog 29 s x g nid = apO 32 1 24 nid s g (rdS g x) := apT sle29 zo32 cel32 by32
theorem bz29 : ∀ (nid : Nat), opBuildSlice Try.prog 29 0 [] nid = some (.nil0, .non) := bsT0 sle29 zo32
theorem bs29 : ∀ (parts : List (Nat × AV)) (nid : Nat), opBuildSlice Try.prog 29 1 parts nid = bsO 32 1 .nil0 1 parts nid := bsT sle29 zo32 cel32 zr32 rfl rfl rfl
theorem ms29 : ∀ (k k' : IntKind) (n m : Int) (nid : Nat), opMakeSlice Try.prog 29 (.int k n) (.int k' m) nid = msO 32 1 24 .nil0 n m nid := msT sle29 zo32 cel32 by32 zr32 rfl rfl
theorem sle30 : sliceElem Try.prog 30 = some 32 := by kernel_rfl
theorem hi30 : hasInfo Try.prog 30 = true := by kernel_rfl
theorem ln30 : ∀ (xs : List AV) (g : Nat → Option Ob), opLen Try.prog 30 (.lst xs) g = some (.int .i64 xs.length) := lenT_lst sle30
theorem lz30 : ∀ (g : Nat → Option Ob), opLen Try.prog 30 .nil0 g = some (.int .i64 0) := lenT_nil0 sle30
theorem ls30 : ∀ (id tot off len : Nat) (g : Nat → Option Ob), opLen Try.prog 30 (.sl id tot off len) g = lenO tot len (g id) := lenT_sl sle30
theorem ia30 : ∀ (xs : List AV) (k : IntKind) (i : Nat) (g : Nat → Option Ob), opIndexAddr Try.prog 30 (.lst xs) (.int k i) g = idxO 1 xs[i]? := iaT_lst sle30 cel32
theorem iz30 : ∀ (xs : List AV) (k : IntKind) (g : Nat → Option Ob), opIndexAddr Try.prog 30 (.lst xs) (.int k 0) g = idxO 1 xs[0]? := iaT_lst0 sle30 cel32
theorem is30 : ∀ (id tot off len : Nat) (k : IntKind) (n : Int) (g : Nat → Option Ob), opIndexAddr Try.prog 30 (.sl id tot off len) (.int k n) g = iaO 1 id tot off len n (g id) := iaT_sl sle30 cel32
theorem ap30 : ∀ (s x : AV) (g : Nat → Option Ob) (nid : Nat), opAppend Try.prog 30 s x g nid = apO 32 1 24 nid s g (rdS g x) := apT sle30 zo32 cel32 by32
theorem bz30 : ∀ (nid : Nat), opBuildSlice Try.prog 30 0 [] nid = some (.nil0, .non) := bsT0 sle30 zo32
theorem bs30 : ∀ (parts : List (Nat × AV)) (nid : Nat), opBuildSlice Try.prog 30 1 parts nid = bsO 32 1 .nil0 1 parts nid := bsT sle30 zo32 cel32 zr32 rfl rfl rfl
theorem ms30 : ∀ (k k' : IntKind) (n m : Int) (nid : Nat), opMakeSlice Try.prog 30 (.int k n) (.int k' m) nid = msO 32 1 24 .nil0 n m nid := msT sle30 zo32 cel32 by32 zr32 rfl rfl
theorem sle32 : sliceElem Try.prog 32 = some 44 := by kernel_rfl
theorem hi32 : hasInfo Try.prog 32 = true := by kernel_rfl
theorem ln32 : ∀ (xs : List AV) (g : Nat → Option Ob), opLen Try.prog 32 (.lst xs) g = some (.int .i64 xs.length) := lenT_lst sle32
theorem lz32 : ∀ (g : Nat → Option Ob), opLen Try.prog 32 .nil0 g = some (.int .i64 0) := lenT_nil0 sle32
theorem ls32 : ∀ (id tot off len : Nat) (g : Nat → Option Ob), opLen Try.prog 32 (.sl id tot off len) g = lenO tot len (g id) := lenT_sl sle32
theorem ia32 : ∀ (xs : List AV) (k : IntKind) (i : Nat) (g : Nat → Option Ob), opIndexAddr Try.prog 32 (.lst xs) (.int k i) g = idxO 8 xs[i]? := iaT_lst sle32 cel44
theorem iz32 : ∀ (xs : List AV) (k : IntKind) (g : Nat → Option Ob), opIndexAddr Try.prog 32 (.lst xs) (.int k 0) g = idxO 8 xs[0]? := iaT_lst0 sle32 cel44
theorem is32 : ∀ (id tot off len : Nat) (k : IntKind) (n : Int) (g : Nat → Option Ob), opIndexAddr Try.prog 32 (.sl id tot off len) (.int k n) g = iaO 8 id tot off len n (g id) := iaT_sl sle32 cel44
theorem ap32 : ∀ (s x : AV) (g : Nat → Option Ob) (nid : Nat), opAppend Try.prog 32 s x g nid = apO 44 8 8 nid s g (rdS g x) := apT sle32 zo44 cel44 by44
theorem bz32 : ∀ (nid : Nat), opBuildSlice Try.prog 32 0 [] nid = some (.nil0, .non) := bsT0 sle32 zo44
theorem bs32 : ∀ (parts : List (Nat × AV)) (nid : Nat), opBuildSlice Try.prog 32 1 parts nid = bsO 44 8 (.agg [(.int .u8 0), (.int .u8 0), (.int .u8 0), (.int .u8 0), (.int .u8 0), (.int .u8 0), (.int .u8 0), (.int .u8 0)]) 1 parts nid := bsT sle32 zo44 cel44 zr44 rfl rfl rfl
theorem ms32 : ∀ (k k' : IntKind) (n m : Int) (nid : Nat), opMakeSlice Try.prog 32 (.int k n) (.int k' m) nid = msO 44 8 8 (.agg [(.int .u8 0), (.int .u8 0), (.int .u8 0), (.int .u8 0), (.int .u8 0), (.int .u8 0), (.int .u8 0), (.int .u8 0)]) n m nid := msT sle32 zo44 cel44 by44 zr44 rfl rfl
theorem fo34x0 : fieldTO Try.prog 34 0 = some (3, 0) := by kernel_rfl
theorem fp34x0 : ∀ (id tot i off : Nat), opFieldAddr Try.prog 34 (.ptr id tot i off) 0 = some (.ptr id tot i (off + 0)) := fpT fo34x0 (by kernel_rfl)
theorem fc34x0 : ∀ (v : AV), opFieldAddr Try.prog 34 (.cptr v) 0 = fcO false (partA Try.prog 3 v.cells 0) := fcT fo34x0 (by kernel_rfl) (by kernel_rfl)
theorem fg34x0 : ∀ (xs : List AV), opField Try.prog 34 (.agg xs) 0 = partA Try.prog 3 xs 0 := fgT fo34x0
theorem fo34x1 : fieldTO Try.prog 34 1 = some (3, 1) := by kernel_rfl
theorem fp34x1 : ∀ (id tot i off : Nat), opFieldAddr Try.prog 34 (.ptr id tot i off) 1 = some (.ptr id tot i (off + 1)) := fpT fo34x1 (by kernel_rfl)
theorem fc34x1 : ∀ (v : AV), opFieldAddr Try.prog 34 (.cptr v) 1 = fcO false (partA Try.prog 3 v.cells 1) := fcT fo34x1 (by kernel_rfl) (by kernel_rfl)
theorem fg34x1 : ∀ (xs : List AV), opField Try.prog 34 (.agg xs) 1 = partA Try.prog 3 xs 1 := fgT fo34x1
theorem fo34x2 : fieldTO Try.prog 34 2 = some (32, 2) := by kernel_rfl
theorem fp34x2 : ∀ (id tot i off : Nat), opFieldAddr Try.prog 34 (.ptr id tot i off) 2 = some (.ptr id tot i (off + 2)) := fpT fo34x2 (by kernel_rfl)
theorem fc34x2 : ∀ (v : AV), opFieldAddr Try.prog 34 (.cptr v) 2 = fcO false (partA Try.prog 32 v.cells 2) := fcT fo34x2 (by kernel_rfl) (by kernel_rfl)
theorem fg34x2 : ∀ (xs : List AV), opField Try.prog 34 (.agg xs) 2 = partA Try.prog 32 xs 2 := fgT fo34x2
theorem bd34 : ∀ parts : List (Nat × AV), opBuild Try.prog 34 parts = bdO [(0, 1), (1, 1), (2, 1)] [(.int .i64 0), (.int .i64 0), .nil0] parts := bdT (by kernel_rfl) zr34
theorem sle60 : sliceElem Try.prog 60 = some 30 := by kernel_rfl
theorem hi60 : hasInfo Try.prog 60 = true := by kernel_rfl
theorem ln60 : ∀ (xs : List AV) (g : Nat → Option Ob), opLen Try.prog 60 (.lst xs) g = some (.int .i64 xs.length) := lenT_lst sle60
theorem lz60 : ∀ (g : Nat → Option Ob), opLen Try.prog 60 .nil0 g = some (.int .i64 0) := lenT_nil0 sle60
theorem ls60 : ∀ (id tot off len : Nat) (g : Nat → Option Ob), opLen Try.prog 60 (.sl id tot off len) g = lenO tot len (g id) := lenT_sl sle60
theorem ia60 : ∀ (xs : List AV) (k : IntKind) (i : Nat) (g : Nat → Option Ob), opIndexAddr Try.prog 60 (.lst xs) (.int k i) g = idxO 1 xs[i]? := iaT_lst sle60 cel30
theorem iz60 : ∀ (xs : List AV) (k : IntKind) (g : Nat → Option Ob), opIndexAddr Try.prog 60 (.lst xs) (.int k 0) g = idxO 1 xs[0]? := iaT_lst0 sle60 cel30
theorem is60 : ∀ (id tot off len : Nat) (k : IntKind) (n : Int) (g : Nat → Option Ob), opIndexAddr Try.prog 60 (.sl id tot off len) (.int k n) g = iaO 1 id tot off len n (g id) := iaT_sl sle60 cel30
theorem ap60 : ∀ (s x : AV) (g : Nat → Option Ob) (nid : Nat), opAppend Try.prog 60 s x g nid = apO 30 1 24 nid s g (rdS g x) := apT sle60 zo30 cel30 by30
theorem bz60 : ∀ (nid : Nat), opBuildSlice Try.prog 60 0 [] nid = some (.nil0, .non) := bsT0 sle60 zo30
theorem bs60 : ∀ (parts : List (Nat × AV)) (nid : Nat), opBuildSlice Try.prog 60 1 parts nid = bsO 30 1 .nil0 1 parts nid := bsT sle60 zo30 cel30 zr30 rfl rfl rfl
theorem ms60 : ∀ (k k' : IntKind) (n m : Int) (nid : Nat), opMakeSlice Try.prog 60 (.int k n) (.int k' m) nid = msO 30 1 24 .nil0 n m nid := msT sle60 zo30 cel30 by30 zr30 rfl rfl
theorem fo83x0 : fieldTO Try.prog 83 0 = some (22, 0) := by kernel_rfl
theorem fp83x0 : ∀ (id tot i off : Nat), opFieldAddr Try.prog 83 (.ptr id tot i off) 0 = some (.ptr id tot i (off + 0)) := fpT fo83x0 (by kernel_rfl)
theorem fc83x0 : ∀ (v : AV), opFieldAddr Try.prog 83 (.cptr v) 0 = fcO false (partA Try.prog 22 v.cells 0) := fcT fo83x0 (by kernel_rfl) (by kernel_rfl)
theorem fg83x0 : ∀ (xs : List AV), opField Try.prog 83 (.agg xs) 0 = partA Try.prog 22 xs 0 := fgT fo83x0
theorem fo83x1 : fieldTO Try.prog 83 1 = some (22, 1) := by kernel_rfl
theorem fp83x1 : ∀ (id tot i off : Nat), opFieldAddr Try.prog 83 (.ptr id tot i off) 1 = some (.ptr id tot i (off + 1)) := fpT fo83x1 (by kernel_rfl)
theorem fc83x1 : ∀ (v : AV), opFieldAddr Try.prog 83 (.cptr v) 1 = fcO false (partA Try.prog 22 v.cells 1) := fcT fo83x1 (by kernel_rfl) (by kernel_rfl)
theorem fg83x1 : ∀ (xs : List AV), opField Try.prog 83 (.agg xs) 1 = partA Try.prog 22 xs 1 := fgT fo83x1
theorem bd83 : ∀ parts : List (Nat × AV), opBuild Try.prog 83 parts = bdO [(0, 1), (1, 1)] [.nil0, .nil0] parts := bdT (by kernel_rfl) zr83
theorem fo85x0 : fieldTO Try.prog 85 0 = some (26, 0) := by kernel_rfl
theorem fp85x0 : ∀ (id tot i off : Nat), opFieldAddr Try.prog 85 (.ptr id tot i off) 0 = some (.ptr id tot i (off + 0)) := fpT fo85x0 (by kernel_rfl)
theorem fc85x0 : ∀ (v : AV), opFieldAddr Try.prog 85 (.cptr v) 0 = fcO true (partA Try.prog 26 v.cells 0) := fcT fo85x0 (by kernel_rfl) (by kernel_rfl)
theorem fg85x0 : ∀ (xs : List AV), opField Try.prog 85 (.agg xs) 0 = partA Try.prog 26 xs 0 := fgT fo85x0
theorem fo85x1 : fieldTO Try.prog 85 1 = some (83, 3) := by kernel_rfl
theorem fp85x1 : ∀ (id tot i off : Nat), opFieldAddr Try.prog 85 (.ptr id tot i off) 1 = some (.ptr id tot i (off + 3)) := fpT fo85x1 (by kernel_rfl)
theorem fc85x1 : ∀ (v : AV), opFieldAddr Try.prog 85 (.cptr v) 1 = fcO true (partA Try.prog 83 v.cells 3) := fcT fo85x1 (by kernel_rfl) (by kernel_rfl)
theorem fg85x1 : ∀ (xs : List AV), opField Try.prog 85 (.agg xs) 1 = partA Try.prog 83 xs 3 := fgT fo85x1
theorem bd85 : ∀ parts : List (Nat × AV), opBuild Try.prog 85 parts = bdO [(0, 3), (3, 2)] [.nil0, .nil0, .nil0, .nil0, .nil0] parts := bdT (by kernel_rfl) zr85
theorem fo93x0 : fieldTO Try.prog 93 0 = some (3, 0) := by kernel_rfl
theorem fp93x0 : ∀ (id tot i off : Nat), opFieldAddr Try.prog 93 (.ptr id tot i off) 0 = some (.ptr id tot i (off + 0)) := fpT fo93x0 (by kernel_rfl)
theorem fc93x0 : ∀ (v : AV), opFieldAddr Try.prog 93 (.cptr v) 0 = fcO false (partA Try.prog 3 v.cells 0) := fcT fo93x0 (by kernel_rfl) (by kernel_rfl)
theorem fg93x0 : ∀ (xs : List AV), opField Try.prog 93 (.agg xs) 0 = partA Try.prog 3 xs 0 := fgT fo93x0
theorem fo93x1 : fieldTO Try.prog 93 1 = some (3, 1) := by kernel_rfl
theorem fp93x1 : ∀ (id tot i off : Nat), opFieldAddr Try.prog 93 (.ptr id tot i off) 1 = some (.ptr id tot i (off + 1)) := fpT fo93x1 (by kernel_rfl)
theorem fc93x1 : ∀ (v : AV), opFieldAddr Try.prog 93 (.cptr v) 1 = fcO false (partA Try.prog 3 v.cells 1) := fcT fo93x1 (by kernel_rfl) (by kernel_rfl)
theorem fg93x1 : ∀ (xs : List AV), opField Try.prog 93 (.agg xs) 1 = partA Try.prog 3 xs 1 := fgT fo93x1
theorem bd93 : ∀ parts : List (Nat × AV), opBuild Try.prog 93 parts = bdO [(0, 1), (1, 1)] [(.int .i64 0), (.int .i64 0)] parts := bdT (by kernel_rfl) zr93
theorem sle96 : sliceElem Try.prog 96 = some 100 := by kernel_rfl
theorem hi96 : hasInfo Try.prog 96 = true := by kernel_rfl
theorem ln96 : ∀ (xs : List AV) (g : Nat → Option Ob), opLen Try.prog 96 (.lst xs) g = some (.int .i64 xs.length) := lenT_lst sle96
theorem lz96 : ∀ (g : Nat → Option Ob), opLen Try.prog 96 .nil0 g = some (.int .i64 0) := lenT_nil0 sle96
theorem ls96 : ∀ (id tot off len : Nat) (g : Nat → Option Ob), opLen Try.prog 96 (.sl id tot off len) g = lenO tot len (g id) := lenT_sl sle96
theorem ia96 : ∀ (xs : List AV) (k : IntKind) (i : Nat) (g : Nat → Option Ob), opIndexAddr Try.prog 96 (.lst xs) (.int k i) g = idxO 1 xs[i]? := iaT_lst sle96 cel100
theorem iz96 : ∀ (xs : List AV) (k : IntKind) (g : Nat → Option Ob), opIndexAddr Try.prog 96 (.lst xs) (.int k 0) g = idxO 1 xs[0]? := iaT_lst0 sle96 cel100
theorem is96 : ∀ (id tot off len : Nat) (k : IntKind) (n : Int) (g : Nat → Option Ob), opIndexAddr Try.prog 96 (.sl id tot off len) (.int k n) g = iaO 1 id tot off len n (g id) := iaT_sl sle96 cel100
theorem ap96 : ∀ (s x : AV) (g : Nat → Option Ob) (nid : Nat), opAppend Try.prog 96 s x g nid = apO 100 1 24 nid s g (rdS g x) := apT sle96 zo100 cel100 by100
theorem bz96 : ∀ (nid : Nat), opBuildSlice Try.prog 96 0 [] nid = some (.nil0, .non) := bsT0 sle96 zo100
theorem bs96 : ∀ (parts : List (Nat × AV)) (nid : Nat), opBuildSlice Try.prog 96 1 parts nid = bsO 100 1 .nil0 1 parts nid := bsT sle96 zo100 cel100 zr100 rfl rfl rfl
theorem ms96 : ∀ (k k' : IntKind) (n m : Int) (nid : Nat), opMakeSlice Try.prog 96 (.int k n) (.int k' m) nid = msO 100 1 24 .nil0 n m nid := msT sle96 zo100 cel100 by100 zr100 rfl rfl
theorem sle99 : sliceElem Try.prog 99 = some 4 := by kernel_rfl
theorem hi99 : hasInfo Try.prog 99 = true := by kernel_rfl
theorem ln99 : ∀ (xs : List AV) (g : Nat → Option Ob), opLen Try.prog 99 (.lst xs) g = some (.int .i64 xs.length) := lenT_lst sle99
theorem lz99 : ∀ (g : Nat → Option Ob), opLen Try.prog 99 .nil0 g = some (.int .i64 0) := lenT_nil0 sle99
theorem ls99 : ∀ (id tot off len : Nat) (g : Nat → Option Ob), opLen Try.prog 99 (.sl id tot off len) g = lenO tot len (g id) := lenT_sl sle99
theorem ia99 : ∀ (xs : List AV) (k : IntKind) (i : Nat) (g : Nat → Option Ob), opIndexAddr Try.prog 99 (.lst xs) (.int k i) g = idxO 1 xs[i]? := iaT_lst sle99 cel4
theorem iz99 : ∀ (xs : List AV) (k : IntKind) (g : Nat → Option Ob), opIndexAddr Try.prog 99 (.lst xs) (.int k 0) g = idxO 1 xs[0]? := iaT_lst0 sle99 cel4
theorem is99 : ∀ (id tot off len : Nat) (k : IntKind) (n : Int) (g : Nat → Option Ob), opIndexAddr Try.prog 99 (.sl id tot off len) (.int k n) g = iaO 1 id tot off len n (g id) := iaT_sl sle99 cel4
theorem ap99 : ∀ (s x : AV) (g : Nat → Option Ob) (nid : Nat), opAppend Try.prog 99 s x g nid = apO 4 1 1 nid s g (rdS g x) := apT sle99 zo4 cel4 by4
theorem bz99 : ∀ (nid : Nat), opBuildSlice Try.prog 99 0 [] nid = some (.nil0, .non) := bsT0 sle99 zo4
theorem bs99 : ∀ (parts : List (Nat × AV)) (nid : Nat), opBuildSlice Try.prog 99 1 parts nid = bsO 4 1 (.bool false) 1 parts nid := bsT sle99 zo4 cel4 zr4 rfl rfl rfl
theorem ms99 : ∀ (k k' : IntKind) (n m : Int) (nid : Nat), opMakeSlice Try.prog 99 (.int k n) (.int k' m) nid = msO 4 1 1 (.bool false) n m nid := msT sle99 zo4 cel4 by4 zr4 rfl rfl
theorem sle100 : sliceElem Try.prog 100 = some 4 := by kernel_rfl
theorem hi100 : hasInfo Try.prog 100 = true := by kernel_rfl
theorem ln100 : ∀ (xs : List AV) (g : Nat → Option Ob), opLen Try.prog 100 (.lst xs) g = some (.int .i64 xs.length) := lenT_lst sle100
theorem lz100 : ∀ (g : Nat → Option Ob), opLen Try.prog 100 .nil0 g = some (.int .i64 0) := lenT_nil0 sle100
theorem ls100 : ∀ (id tot off len : Nat) (g : Nat → Option Ob), opLen Try.prog 100 (.sl id tot off len) g = lenO tot len (g id) := lenT_sl sle100
theorem ia100 : ∀ (xs : List AV) (k : IntKind) (i : Nat) (g : Nat → Option Ob), opIndexAddr Try.prog 100 (.lst xs) (.int k i) g = idxO 1 xs[i]? := iaT_lst sle100 cel4
theorem iz100 : ∀ (xs : List AV) (k : IntKind) (g : Nat → Option Ob), opIndexAddr Try.prog 100 (.lst xs) (.int k 0) g = idxO 1 xs[0]? := iaT_lst0 sle100 cel4
theorem is100 : ∀ (id tot off len : Nat) (k : IntKind) (n : Int) (g : Nat → Option Ob), opIndexAddr Try.prog 100 (.sl id tot off len) (.int k n) g = iaO 1 id tot off len n (g id) := iaT_sl sle100 cel4
theorem ap100 : ∀ (s x : AV) (g : Nat → Option Ob) (nid : Nat), opAppend Try.prog 100 s x g nid = apO 4 1 1 nid s g (rdS g x) := apT sle100 zo4 cel4 by4
theorem bz100 : ∀ (nid : Nat), opBuildSlice Try.prog 100 0 [] nid = some (.nil0, .non) := bsT0 sle100 zo4
theorem bs100 : ∀ (parts : List (Nat × AV)) (nid : Nat), opBuildSlice Try.prog 100 1 parts nid = bsO 4 1 (.bool false) 1 parts nid := bsT sle100 zo4 cel4 zr4 rfl rfl rfl
theorem ms100 : ∀ (k k' : IntKind) (n m : Int) (nid : Nat), opMakeSlice Try.prog 100 (.int k n) (.int k' m) nid = msO 4 1 1 (.bool false) n m nid := msT sle100 zo4 cel4 by4 zr4 rfl rfl
theorem fo106x0 : fieldTO Try.prog 106 0 = some (3, 0) := by kernel_rfl
theorem fp106x0 : ∀ (id tot i off : Nat), opFieldAddr Try.prog 106 (.ptr id tot i off) 0 = some (.ptr id tot i (off + 0)) := fpT fo106x0 (by kernel_rfl)
theorem fc106x0 : ∀ (v : AV), opFieldAddr Try.prog 106 (.cptr v) 0 = fcO false (partA Try.prog 3 v.cells 0) := fcT fo106x0 (by kernel_rfl) (by kernel_rfl)
theorem fg106x0 : ∀ (xs : List AV), opField Try.prog 106 (.agg xs) 0 = partA Try.prog 3 xs 0 := fgT fo106x0
theorem fo106x1 : fieldTO Try.prog 106 1 = some (3, 1) := by kernel_rfl
theorem fp106x1 : ∀ (id tot i off : Nat), opFieldAddr Try.prog 106 (.ptr id tot i off) 1 = some (.ptr id tot i (off + 1)) := fpT fo106x1 (by kernel_rfl)
theorem fc106x1 : ∀ (v : AV), opFieldAddr Try.prog 106 (.cptr v) 1 = fcO false (partA Try.prog 3 v.cells 1) := fcT fo106x1 (by kernel_rfl) (by kernel_rfl)
theorem fg106x1 : ∀ (xs : List AV), opField Try.prog 106 (.agg xs) 1 = partA Try.prog 3 xs 1 := fgT fo106x1
theorem fo106x2 : fieldTO Try.prog 106 2 = some (22, 2) := by kernel_rfl
theorem fp106x2 : ∀ (id tot i off : Nat), opFieldAddr Try.prog 106 (.ptr id tot i off) 2 = some (.ptr id tot i (off + 2)) := fpT fo106x2 (by kernel_rfl)
theorem fc106x2 : ∀ (v : AV), opFieldAddr Try.prog 106 (.cptr v) 2 = fcO false (partA Try.prog 22 v.cells 2) := fcT fo106x2 (by kernel_rfl) (by kernel_rfl)
theorem fg106x2 : ∀ (xs : List AV), opField Try.prog 106 (.agg xs) 2 = partA Try.prog 22 xs 2 := fgT fo106x2
theorem fo106x3 : fieldTO Try.prog 106 3 = some (22, 3) := by kernel_rfl
theorem fp106x3 : ∀ (id tot i off : Nat), opFieldAddr Try.prog 106 (.ptr id tot i off) 3 = some (.ptr id tot i (off + 3)) := fpT fo106x3 (by kernel_rfl)
theorem fc106x3 : ∀ (v : AV), opFieldAddr Try.prog 106 (.cptr v) 3 = fcO false (partA Try.prog 22 v.cells 3) := fcT fo106x3 (by kernel_rfl) (by kernel_rfl)
theorem fg106x3 : ∀ (xs : List AV), opField Try.prog 106 (.agg xs) 3 = partA Try.prog 22 xs 3 := fgT fo106x3
theorem bd106 : ∀ parts : List (Nat × AV), opBuild Try.prog 106 parts = bdO [(0, 1), (1, 1), (2, 1), (3, 1)] [(.int .i64 0), (.int .i64 0), .nil0, .nil0] parts := bdT (by kernel_rfl) zr106
theorem sle117 : sliceElem Try.prog 117 = some 5 := by kernel_rfl
theorem hi117 : hasInfo Try.prog 117 = true := by kernel_rfl
theorem ln117 : ∀ (xs : List AV) (g : Nat → Option Ob), opLen Try.prog 117 (.lst xs) g = some (.int .i64 xs.length) := lenT_lst sle117
theorem lz117 : ∀ (g : Nat → Option Ob), opLen Try.prog 117 .nil0 g = some (.int .i64 0) := lenT_nil0 sle117
theorem ls117 : ∀ (id tot off len : Nat) (g : Nat → Option Ob), opLen Try.prog 117 (.sl id tot off len) g = lenO tot len (g id) := lenT_sl sle117
theorem ia117 : ∀ (xs : List AV) (k : IntKind) (i : Nat) (g : Nat → Option Ob), opIndexAddr Try.prog 117 (.lst xs) (.int k i) g = idxO 1 xs[i]? := iaT_lst sle117 cel5
theorem iz117 : ∀ (xs : List AV) (k : IntKind) (g : Nat → Option Ob), opIndexAddr Try.prog 117 (.lst xs) (.int k 0) g = idxO 1 xs[0]? := iaT_lst0 sle117 cel5
theorem is117 : ∀ (id tot off len : Nat) (k : IntKind) (n : Int) (g : Nat → Option Ob), opIndexAddr Try.prog 117 (.sl id tot off len) (.int k n) g = iaO 1 id tot off len n (g id) := iaT_sl sle117 cel5
theorem ap117 : ∀ (s x : AV) (g : Nat → Option Ob) (nid : Nat), opAppend Try.prog 117 s x g nid = apO 5 1 1 nid s g (rdS g x) := apT sle117 zo5 cel5 by5
theorem bz117 : ∀ (nid : Nat), opBuildSlice Try.prog 117 0 [] nid = some (.nil0, .non) := bsT0 sle117 zo5
theorem bs117 : ∀ (parts : List (Nat × AV)) (nid : Nat), opBuildSlice Try.prog 117 1 parts nid = bsO 5 1 (.int .u8 0) 1 parts nid := bsT sle117 zo5 cel5 zr5 rfl rfl rfl
theorem ms117 : ∀ (k k' : IntKind) (n m : Int) (nid : Nat), opMakeSlice Try.prog 117 (.int k n) (.int k' m) nid = msO 5 1 1 (.int .u8 0) n m nid := msT sle117 zo5 cel5 by5 zr5 rfl rfl
theorem fo122x0 : fieldTO Try.prog 122 0 = some (3, 0) := by kernel_rfl
theorem fp122x0 : ∀ (id tot i off : Nat), opFieldAddr Try.prog 122 (.ptr id tot i off) 0 = some (.ptr id tot i (off + 0)) := fpT fo122x0 (by kernel_rfl)
theorem fc122x0 : ∀ (v : AV), opFieldAddr Try.prog 122 (.cptr v) 0 = fcO false (partA Try.prog 3 v.cells 0) := fcT fo122x0 (by kernel_rfl) (by kernel_rfl)
theorem fg122x0 : ∀ (xs : List AV), opField Try.prog 122 (.agg xs) 0 = partA Try.prog 3 xs 0 := fgT fo122x0
theorem fo122x1 : fieldTO Try.prog 122 1 = some (3, 1) := by kernel_rfl
theorem fp122x1 : ∀ (id tot i off : Nat), opFieldAddr Try.prog 122 (.ptr id tot i off) 1 = some (.ptr id tot i (off + 1)) := fpT fo122x1 (by kernel_rfl)
theorem fc122x1 : ∀ (v : AV), opFieldAddr Try.prog 122 (.cptr v) 1 = fcO false (partA Try.prog 3 v.cells 1) := fcT fo122x1 (by kernel_rfl) (by kernel_rfl)
theorem fg122x1 : ∀ (xs : List AV), opField Try.prog 122 (.agg xs) 1 = partA Try.prog 3 xs 1 := fgT fo122x1
theorem bd122 : ∀ parts : List (Nat × AV), opBuild Try.prog 122 parts = bdO [(0, 1), (1, 1)] [(.int .i64 0), (.int .i64 0)] parts := bdT (by kernel_rfl) zr122
theorem fo124x0 : fieldTO Try.prog 124 0 = some (122, 0) := by kernel_rfl
theorem fp124x0 : ∀ (id tot i off : Nat), opFieldAddr Try.prog 124 (.ptr id tot i off) 0 = some (.ptr id tot i (off + 0)) := fpT fo124x0 (by kernel_rfl)
theorem fc124x0 : ∀ (v : AV), opFieldAddr Try.prog 124 (.cptr v) 0 = fcO true (partA Try.prog 122 v.cells 0) := fcT fo124x0 (by kernel_rfl) (by kernel_rfl)
theorem fg124x0 : ∀ (xs : List AV), opField Try.prog 124 (.agg xs) 0 = partA Try.prog 122 xs 0 := fgT fo124x0
theorem fo124x1 : fieldTO Try.prog 124 1 = some (44, 2) := by kernel_rfl
theorem fp124x1 : ∀ (id tot i off : Nat), opFieldAddr Try.prog 124 (.ptr id tot i off) 1 = some (.ptr id tot i (off + 2)) := fpT fo124x1 (by kernel_rfl)
theorem fc124x1 : ∀ (v : AV), opFieldAddr Try.prog 124 (.cptr v) 1 = fcO true (partA Try.prog 44 v.cells 2) := fcT fo124x1 (by kernel_rfl) (by kernel_rfl)
theorem fg124x1 : ∀ (xs : List AV), opField Try.prog 124 (.agg xs) 1 = partA Try.prog 44 xs 2 := fgT fo124x1
theorem bd124 : ∀ parts : List (Nat × AV), opBuild Try.prog 124 parts = bdO [(0, 2), (2, 8)] [(.int .i64 0), (.int .i64 0), (.int .u8 0), (.int .u8 0), (.int .u8 0), (.int .u8 0), (.int .u8 0), (.int .u8 0), (.int .u8 0), (.int .u8 0)] parts := bdT (by kernel_rfl) zr124
theorem fo135x0 : fieldTO Try.prog 135 0 = some (26, 0) := by kernel_rfl
theorem fp135x0 : ∀ (id tot i off : Nat), opFieldAddr Try.prog 135 (.ptr id tot i off) 0 = some (.ptr id tot i (off + 0)) := fpT fo135x0 (by kernel_rfl)
theorem fc135x0 : ∀ (v : AV), opFieldAddr Try.prog 135 (.cptr v) 0 = fcO true (partA Try.prog 26 v.cells 0) := fcT fo135x0 (by kernel_rfl) (by kernel_rfl)
theorem fg135x0 : ∀ (xs : List AV), opField Try.prog 135 (.agg xs) 0 = partA Try.prog 26 xs 0 := fgT fo135x0
theorem fo135x1 : fieldTO Try.prog 135 1 = some (30, 3) := by kernel_rfl
theorem fp135x1 : ∀ (id tot i off : Nat), opFieldAddr Try.prog 135 (.ptr id tot i off) 1 = some (.ptr id tot i (off + 3)) := fpT fo135x1 (by kernel_rfl)
theorem fc135x1 : ∀ (v : AV), opFieldAddr Try.prog 135 (.cptr v) 1 = fcO false (partA Try.prog 30 v.cells 3) := fcT fo135x1 (by kernel_rfl) (by kernel_rfl)
theorem fg135x1 : ∀ (xs : List AV), opField Try.prog 135 (.agg xs) 1 = partA Try.prog 30 xs 3 := fgT fo135x1
theorem fo135x2 : fieldTO Try.prog 135 2 = some (65, 4) := by kernel_rfl
theorem fp135x2 : ∀ (id tot i off : Nat), opFieldAddr Try.prog 135 (.ptr id tot i off) 2 = some (.ptr id tot i (off + 4)) := fpT fo135x2 (by kernel_rfl)
theorem fc135x2 : ∀ (v : AV), opFieldAddr Try.prog 135 (.cptr v) 2 = fcO false (partA Try.prog 65 v.cells 4) := fcT fo135x2 (by kernel_rfl) (by kernel_rfl)
theorem fg135x2 : ∀ (xs : List AV), opField Try.prog 135 (.agg xs) 2 = partA Try.prog 65 xs 4 := fgT fo135x2
theorem bd135 : ∀ parts : List (Nat × AV), opBuild Try.prog 135 parts = bdO [(0, 3), (3, 1), (4, 1)] [.nil0, .nil0, .nil0, .nil0, .nilm] parts := bdT (by kernel_rfl) zr135
theorem sle153 : sliceElem Try.prog 153 = some 22 := by kernel_rfl
theorem hi153 : hasInfo Try.prog 153 = true := by kernel_rfl
theorem ln153 : ∀ (xs : List AV) (g : Nat → Option Ob), opLen Try.prog 153 (.lst xs) g = some (.int .i64 xs.length) := lenT_lst sle153
theorem lz153 : ∀ (g : Nat → Option Ob), opLen Try.prog 153 .nil0 g = some (.int .i64 0) := lenT_nil0 sle153
theorem ls153 : ∀ (id tot off len : Nat) (g : Nat → Option Ob), opLen Try.prog 153 (.sl id tot off len) g = lenO tot len (g id) := lenT_sl sle153
theorem ia153 : ∀ (xs : List AV) (k : IntKind) (i : Nat) (g : Nat → Option Ob), opIndexAddr Try.prog 153 (.lst xs) (.int k i) g = idxO 1 xs[i]? := iaT_lst sle153 cel22
theorem iz153 : ∀ (xs : List AV) (k : IntKind) (g : Nat → Option Ob), opIndexAddr Try.prog 153 (.lst xs) (.int k 0) g = idxO 1 xs[0]? := iaT_lst0 sle153 cel22
theorem is153 : ∀ (id tot off len : Nat) (k : IntKind) (n : Int) (g : Nat → Option Ob), opIndexAddr Try.prog 153 (.sl id tot off len) (.int k n) g = iaO 1 id tot off len n (g id) := iaT_sl sle153 cel22
theorem ap153 : ∀ (s x : AV) (g : Nat → Option Ob) (nid : Nat), opAppend Try.prog 153 s x g nid = apO 22 1 24 nid s g (rdS g x) := apT sle153 zo22 cel22 by22
theorem bz153 : ∀ (nid : Nat), opBuildSlice Try.prog 153 0 [] nid = some (.nil0, .non) := bsT0 sle153 zo22
theorem bs153 : ∀ (parts : List (Nat × AV)) (nid : Nat), opBuildSlice Try.prog 153 1 parts nid = bsO 22 1 .nil0 1 parts nid := bsT sle153 zo22 cel22 zr22 rfl rfl rfl
theorem ms153 : ∀ (k k' : IntKind) (n m : Int) (nid : Nat), opMakeSlice Try.prog 153 (.int k n) (.int k' m) nid = msO 22 1 24 .nil0 n m nid := msT sle153 zo22 cel22 by22 zr22 rfl rfl
theorem sle165 : sliceElem Try.prog 165 = some 99 := by kernel_rfl
theorem hi165 : hasInfo Try.prog 165 = true := by kernel_rfl
theorem ln165 : ∀ (xs : List AV) (g : Nat → Option Ob), opLen Try.prog 165 (.lst xs) g = some (.int .i64 xs.length) := lenT_lst sle165
theorem lz165 : ∀ (g : Nat → Option Ob), opLen Try.prog 165 .nil0 g = some (.int .i64 0) := lenT_nil0 sle165
theorem ls165 : ∀ (id tot off len : Nat) (g : Nat → Option Ob), opLen Try.prog 165 (.sl id tot off len) g = lenO tot len (g id) := lenT_sl sle165
theorem ia165 : ∀ (xs : List AV) (k : IntKind) (i : Nat) (g : Nat → Option Ob), opIndexAddr Try.prog 165 (.lst xs) (.int k i) g = idxO 1 xs[i]? := iaT_lst sle165 cel99
theorem iz165 : ∀ (xs : List AV) (k : IntKind) (g : Nat → Option Ob), opIndexAddr Try.prog 165 (.lst xs) (.int k 0) g = idxO 1 xs[0]? := iaT_lst0 sle165 cel99
theorem is165 : ∀ (id tot off len : Nat) (k : IntKind) (n : Int) (g : Nat → Option Ob), opIndexAddr Try.prog 165 (.sl id tot off len) (.int k n) g = iaO 1 id tot off len n (g id) := iaT_sl sle165 cel99
theorem ap165 : ∀ (s x : AV) (g : Nat → Option Ob) (nid : Nat), opAppend Try.prog 165 s x g nid = apO 99 1 24 nid s g (rdS g x) := apT sle165 zo99 cel99 by99
theorem bz165 : ∀ (nid : Nat), opBuildSlice Try.prog 165 0 [] nid = some (.nil0, .non) := bsT0 sle165 zo99
theorem bs165 : ∀ (parts : List (Nat × AV)) (nid : Nat), opBuildSlice Try.prog 165 1 parts nid = bsO 99 1 .nil0 1 parts nid := bsT sle165 zo99 cel99 zr99 rfl rfl rfl
theorem ms165 : ∀ (k k' : IntKind) (n m : Int) (nid : Nat), opMakeSlice Try.prog 165 (.int k n) (.int k' m) nid = msO 99 1 24 .nil0 n m nid := msT sle165 zo99 cel99 by99 zr99 rfl rfl
theorem mp64 : mapKV 64 Try.prog = some (124, 3) := by kernel_rfl
theorem mp65 : mapKV 65 Try.prog = some (124, 3) := by kernel_rfl
theorem mp136 : mapKV 136 Try.prog = some (3, 4) := by kernel_rfl
theorem mixed : Try.prog.follows .mixedOrders = true := by kernel_rfl
theorem ty3 : type_of% pa3 ∧ type_of% lv3 ∧ type_of% st3 ∧ type_of% zr3 := ⟨pa3, lv3, st3, zr3⟩
theorem ty4 : type_of% pa4 ∧ type_of% lv4 ∧ type_of% st4 ∧ type_of% zr4 ∧ type_of% ib4 := ⟨pa4, lv4, st4, zr4, ib4⟩
theorem ty5 : type_of% pa5 ∧ type_of% lv5 ∧ type_of% st5 ∧ type_of% zr5 := ⟨pa5, lv5, st5, zr5⟩
theorem ty22 : type_of% pa22 ∧ type_of% lv22 ∧ type_of% st22 ∧ type_of% zr22 ∧ type_of% hi22 ∧ type_of% ln22 ∧ type_of% lz22 ∧ type_of% ls22 ∧ type_of% ia22 ∧ type_of% iz22 ∧ type_of% is22 ∧ type_of% ap22 ∧ type_of% bz22 ∧ type_of% bs22 ∧ type_of% ms22 := ⟨pa22, lv22, st22, zr22, hi22, ln22, lz22, ls22, ia22, iz22, is22, ap22, bz22, bs22, ms22⟩
theorem ty23 : type_of% pa23 ∧ type_of% lv23 ∧ type_of% st23 ∧ type_of% zr23 ∧ type_of% hi23 ∧ type_of% ln23 ∧ type_of% lz23 ∧ type_of% ls23 ∧ type_of% ia23 ∧ type_of% iz23 ∧ type_of% is23 ∧ type_of% ap23 ∧ type_of% bz23 ∧ type_of% bs23 ∧ type_of% ms23 := ⟨pa23, lv23, st23, zr23, hi23, ln23, lz23, ls23, ia23, iz23, is23, ap23, bz23, bs23, ms23⟩
theorem ty24 : type_of% pa24 ∧ type_of% lv24 ∧ type_of% st24 ∧ type_of% zr24 ∧ type_of% hi24 ∧ type_of% ln24 ∧ type_of% lz24 ∧ type_of% ls24 ∧ type_of% ia24 ∧ type_of% iz24 ∧ type_of% is24 ∧ type_of% ap24 ∧ type_of% bz24 ∧ type_of% bs24 ∧ type_of% ms24 := ⟨pa24, lv24, st24, zr24, hi24, ln24, lz24, ls24, ia24, iz24, is24, ap24, bz24, bs24, ms24⟩
theorem ty26 : type_of% pa26 ∧ type_of% lv26 ∧ type_of% st26 ∧ type_of% zr26 ∧ type_of% fp26x0 ∧ type_of% fc26x0 ∧ type_of% fg26x0 ∧ type_of% fp26x1 ∧ type_of% fc26x1 ∧ type_of% fg26x1 ∧ type_of% fp26x2 ∧ type_of% fc26x2 ∧ type_of% fg26x2 ∧ type_of% bd26 := ⟨pa26, lv26, st26, zr26, fp26x0, fc26x0, fg26x0, fp26x1, fc26x1, fg26x1, fp26x2, fc26x2, fg26x2, bd26⟩
theorem ty29 : type_of% pa29 ∧ type_of% lv29 ∧ type_of% st29 ∧ type_of% zr29 ∧ type_of% hi29 ∧ type_of% ln29 ∧ type_of% lz29 ∧ type_of% ls29 ∧ type_of% ia29 ∧ type_of% iz29 ∧ type_of% is29 ∧ type_of% ap29 ∧ type_of% bz29 ∧ type_of% bs29 ∧ type_of% ms29 := ⟨pa29, lv29, st29, zr29, hi29, ln29, lz29, ls29, ia29, iz29, is29, ap29, bz29, bs29, ms29⟩
theorem ty30 : type_of% pa30 ∧ type_of% lv30 ∧ type_of% st30 ∧ type_of% zr30 ∧ type_of% hi30 ∧ type_of% ln30 ∧ type_of% lz30 ∧ type_of% ls30 ∧ type_of% ia30 ∧ type_of% iz30 ∧ type_of% is30 ∧ type_of% ap30 ∧ type_of% bz30 ∧ type_of% bs30 ∧ type_of% ms30 := ⟨pa30, lv30, st30, zr30, hi30, ln30, lz30, ls30, ia30, iz30, is30, ap30, bz30, bs30, ms30⟩
theorem ty32 : type_of% pa32 ∧ type_of% lv32 ∧ type_of% st32 ∧ type_of% zr32 ∧ type_of% hi32 ∧ type_of% ln32 ∧ type_of% lz32 ∧ type_of% ls32 ∧ type_of% ia32 ∧ type_of% iz32 ∧ type_of% is32 ∧ type_of% ap32 ∧ type_of% bz32 ∧ type_of% bs32 ∧ type_of% ms32 := ⟨pa32, lv32, st32, zr32, hi32, ln32, lz32, ls32, ia32, iz32, is32, ap32, bz32, bs32, ms32⟩
theorem ty34 : type_of% pa34 ∧ type_of% lv34 ∧ type_of% st34 ∧ type_of% zr34 ∧ type_of% fp34x0 ∧ type_of% fc34x0 ∧ type_of% fg34x0 ∧ type_of% fp34x1 ∧ type_of% fc34x1 ∧ type_of% fg34x1 ∧ type_of% fp34x2 ∧ type_of% fc34x2 ∧ type_of% fg34x2 ∧ type_of% bd34 := ⟨pa34, lv34, st34, zr34, fp34x0, fc34x0, fg34x0, fp34x1, fc34x1, fg34x1, fp34x2, fc34x2, fg34x2, bd34⟩
theorem ty35 : type_of% pa35 ∧ type_of% lv35 ∧ type_of% st35 ∧ type_of% zr35 := ⟨pa35, lv35, st35, zr35⟩
theorem ty44 : type_of% pa44 ∧ type_of% lv44 ∧ type_of% st44 ∧ type_of% zr44 := ⟨pa44, lv44, st44, zr44⟩
theorem ty60 : type_of% pa60 ∧ type_of% lv60 ∧ type_of% st60 ∧ type_of% zr60 ∧ type_of% hi60 ∧ type_of% ln60 ∧ type_of% lz60 ∧ type_of% ls60 ∧ type_of% ia60 ∧ type_of% iz60 ∧ type_of% is60 ∧ type_of% ap60 ∧ type_of% bz60 ∧ type_of% bs60 ∧ type_of% ms60 := ⟨pa60, lv60, st60, zr60, hi60, ln60, lz60, ls60, ia60, iz60, is60, ap60, bz60, bs60, ms60⟩
theorem ty64 : type_of% pa64 ∧ type_of% lv64 ∧ type_of% st64 ∧ type_of% zr64 ∧ type_of% mp64 := ⟨pa64, lv64, st64, zr64, mp64⟩
theorem ty65 : type_of% pa65 ∧ type_of% lv65 ∧ type_of% st65 ∧ type_of% zr65 ∧ type_of% mp65 := ⟨pa65, lv65, st65, zr65, mp65⟩
theorem ty72 : type_of% pa72 ∧ type_of% lv72 ∧ type_of% st72 ∧ type_of% zr72 := ⟨pa72, lv72, st72, zr72⟩
theorem ty83 : type_of% pa83 ∧ type_of% lv83 ∧ type_of% st83 ∧ type_of% zr83 ∧ type_of% fp83x0 ∧ type_of% fc83x0 ∧ type_of% fg83x0 ∧ type_of% fp83x1 ∧ type_of% fc83x1 ∧ type_of% fg83x1 ∧ type_of% bd83 := ⟨pa83, lv83, st83, zr83, fp83x0, fc83x0, fg83x0, fp83x1, fc83x1, fg83x1, bd83⟩
theorem ty85 : type_of% pa85 ∧ type_of% lv85 ∧ type_of% st85 ∧ type_of% zr85 ∧ type_of% fp85x0 ∧ type_of% fc85x0 ∧ type_of% fg85x0 ∧ type_of% fp85x1 ∧ type_of% fc85x1 ∧ type_of% fg85x1 ∧ type_of% bd85 := ⟨pa85, lv85, st85, zr85, fp85x0, fc85x0, fg85x0, fp85x1, fc85x1, fg85x1, bd85⟩
theorem ty93 : type_of% pa93 ∧ type_of% lv93 ∧ type_of% st93 ∧ type_of% zr93 ∧ type_of% fp93x0 ∧ type_of% fc93x0 ∧ type_of% fg93x0 ∧ type_of% fp93x1 ∧ type_of% fc93x1 ∧ type_of% fg93x1 ∧ type_of% bd93 := ⟨pa93, lv93, st93, zr93, fp93x0, fc93x0, fg93x0, fp93x1, fc93x1, fg93x1, bd93⟩
theorem ty95 : type_of% pa95 ∧ type_of% lv95 ∧ type_of% st95 ∧ type_of% zr95 := ⟨pa95, lv95, st95, zr95⟩
theorem ty96 : type_of% pa96 ∧ type_of% lv96 ∧ type_of% st96 ∧ type_of% zr96 ∧ type_of% hi96 ∧ type_of% ln96 ∧ type_of% lz96 ∧ type_of% ls96 ∧ type_of% ia96 ∧ type_of% iz96 ∧ type_of% is96 ∧ type_of% ap96 ∧ type_of% bz96 ∧ type_of% bs96 ∧ type_of% ms96 := ⟨pa96, lv96, st96, zr96, hi96, ln96, lz96, ls96, ia96, iz96, is96, ap96, bz96, bs96, ms96⟩
theorem ty99 : type_of% pa99 ∧ type_of% lv99 ∧ type_of% st99 ∧ type_of% zr99 ∧ type_of% hi99 ∧ type_of% ln99 ∧ type_of% lz99 ∧ type_of% ls99 ∧ type_of% ia99 ∧ type_of% iz99 ∧ type_of% is99 ∧ type_of% ap99 ∧ type_of% bz99 ∧ type_of% bs99 ∧ type_of% ms99 := ⟨pa99, lv99, st99, zr99, hi99, ln99, lz99, ls99, ia99, iz99, is99, ap99, bz99, bs99, ms99⟩
theorem ty100 : type_of% pa100 ∧ type_of% lv100 ∧ type_of% st100 ∧ type_of% zr100 ∧ type_of% hi100 ∧ type_of% ln100 ∧ type_of% lz100 ∧ type_of% ls100 ∧ type_of% ia100 ∧ type_of% iz100 ∧ type_of% is100 ∧ type_of% ap100 ∧ type_of% bz100 ∧ type_of% bs100 ∧ type_of% ms100 := ⟨pa100, lv100, st100, zr100, hi100, ln100, lz100, ls100, ia100, iz100, is100, ap100, bz100, bs100, ms100⟩
theorem ty106 : type_of% pa106 ∧ type_of% lv106 ∧ type_of% st106 ∧ type_of% zr106 ∧ type_of% fp106x0 ∧ type_of% fc106x0 ∧ type_of% fg106x0 ∧ type_of% fp106x1 ∧ type_of% fc106x1 ∧ type_of% fg106x1 ∧ type_of% fp106x2 ∧ type_of% fc106x2 ∧ type_of% fg106x2 ∧ type_of% fp106x3 ∧ type_of% fc106x3 ∧ type_of% fg106x3 ∧ type_of% bd106 := ⟨pa106, lv106, st106, zr106, fp106x0, fc106x0, fg106x0, fp106x1, fc106x1, fg106x1, fp106x2, fc106x2, fg106x2, fp106x3, fc106x3, fg106x3, bd106⟩
theorem ty114 : type_of% pa114 ∧ type_of% lv114 ∧ type_of% st114 ∧ type_of% zr114 := ⟨pa114, lv114, st114, zr114⟩
theorem ty117 : type_of% pa117 ∧ type_of% lv117 ∧ type_of% st117 ∧ type_of% zr117 ∧ type_of% hi117 ∧ type_of% ln117 ∧ type_of% lz117 ∧ type_of% ls117 ∧ type_of% ia117 ∧ type_of% iz117 ∧ type_of% is117 ∧ type_of% ap117 ∧ type_of% bz117 ∧ type_of% bs117 ∧ type_of% ms117 := ⟨pa117, lv117, st117, zr117, hi117, ln117, lz117, ls117, ia117, iz117, is117, ap117, bz117, bs117, ms117⟩
theorem ty122 : type_of% pa122 ∧ type_of% lv122 ∧ type_of% st122 ∧ type_of% zr122 ∧ type_of% fp122x0 ∧ type_of% fc122x0 ∧ type_of% fg122x0 ∧ type_of% fp122x1 ∧ type_of% fc122x1 ∧ type_of% fg122x1 ∧ type_of% bd122 := ⟨pa122, lv122, st122, zr122, fp122x0, fc122x0, fg122x0, fp122x1, fc122x1, fg122x1, bd122⟩
theorem ty124 : type_of% pa124 ∧ type_of% lv124 ∧ type_of% st124 ∧ type_of% zr124 ∧ type_of% fp124x0 ∧ type_of% fc124x0 ∧ type_of% fg124x0 ∧ type_of% fp124x1 ∧ type_of% fc124x1 ∧ type_of% fg124x1 ∧ type_of% bd124 := ⟨pa124, lv124, st124, zr124, fp124x0, fc124x0, fg124x0, fp124x1, fc124x1, fg124x1, bd124⟩
theorem ty126 : type_of% pa126 ∧ type_of% lv126 ∧ type_of% st126 ∧ type_of% zr126 := ⟨pa126, lv126, st126, zr126⟩
theorem ty135 : type_of% pa135 ∧ type_of% lv135 ∧ type_of% st135 ∧ type_of% zr135 ∧ type_of% fp135x0 ∧ type_of% fc135x0 ∧ type_of% fg135x0 ∧ type_of% fp135x1 ∧ type_of% fc135x1 ∧ type_of% fg135x1 ∧ type_of% fp135x2 ∧ type_of% fc135x2 ∧ type_of% fg135x2 ∧ type_of% bd135 := ⟨pa135, lv135, st135, zr135, fp135x0, fc135x0, fg135x0, fp135x1, fc135x1, fg135x1, fp135x2, fc135x2, fg135x2, bd135⟩
theorem ty136 : type_of% pa136 ∧ type_of% lv136 ∧ type_of% st136 ∧ type_of% zr136 ∧ type_of% mp136 := ⟨pa136, lv136, st136, zr136, mp136⟩
theorem ty153 : type_of% pa153 ∧ type_of% lv153 ∧ type_of% st153 ∧ type_of% zr153 ∧ type_of% hi153 ∧ type_of% ln153 ∧ type_of% lz153 ∧ type_of% ls153 ∧ type_of% ia153 ∧ type_of% iz153 ∧ type_of% is153 ∧ type_of% ap153 ∧ type_of% bz153 ∧ type_of% bs153 ∧ type_of% ms153 := ⟨pa153, lv153, st153, zr153, hi153, ln153, lz153, ls153, ia153, iz153, is153, ap153, bz153, bs153, ms153⟩
theorem ty165 : type_of% pa165 ∧ type_of% lv165 ∧ type_of% st165 ∧ type_of% zr165 ∧ type_of% hi165 ∧ type_of% ln165 ∧ type_of% lz165 ∧ type_of% ls165 ∧ type_of% ia165 ∧ type_of% iz165 ∧ type_of% is165 ∧ type_of% ap165 ∧ type_of% bz165 ∧ type_of% bs165 ∧ type_of% ms165 := ⟨pa165, lv165, st165, zr165, hi165, ln165, lz165, ls165, ia165, iz165, is165, ap165, bz165, bs165, ms165⟩
theorem ty178 : type_of% pa178 ∧ type_of% lv178 ∧ type_of% st178 ∧ type_of% zr178 := ⟨pa178, lv178, st178, zr178⟩
theorem ty184 : type_of% pa184 ∧ type_of% lv184 ∧ type_of% st184 ∧ type_of% zr184 := ⟨pa184, lv184, st184, zr184⟩
theorem TY : (((((type_of% ty3) ∧ (type_of% ty4)) ∧ ((type_of% ty5) ∧ (type_of% ty22))) ∧ (((type_of% ty23) ∧ (type_of% ty24)) ∧ ((type_of% ty26) ∧ ((type_of% ty29) ∧ (type_of% ty30))))) ∧ ((((type_of% ty32) ∧ (type_of% ty34)) ∧ ((type_of% ty35) ∧ (type_of% ty44))) ∧ (((type_of% ty60) ∧ (type_of% ty64)) ∧ ((type_of% ty65) ∧ ((type_of% ty72) ∧ (type_of% ty83)))))) ∧ (((((type_of% ty85) ∧ (type_of% ty93)) ∧ ((type_of% ty95) ∧ (type_of% ty96))) ∧ (((type_of% ty99) ∧ (type_of% ty100)) ∧ ((type_of% ty106) ∧ ((type_of% ty114) ∧ (type_of% ty117))))) ∧ ((((type_of% ty122) ∧ (type_of% ty124)) ∧ ((type_of% ty126) ∧ (type_of% ty135))) ∧ (((type_of% ty136) ∧ (type_of% ty153)) ∧ ((type_of% ty165) ∧ ((type_of% ty178) ∧ (type_of% ty184)))))) := ⟨⟨⟨⟨⟨ty3, ty4⟩, ⟨ty5, ty22⟩⟩, ⟨⟨ty23, ty24⟩, ⟨ty26, ⟨ty29, ty30⟩⟩⟩⟩, ⟨⟨⟨ty32, ty34⟩, ⟨ty35, ty44⟩⟩, ⟨⟨ty60, ty64⟩, ⟨ty65, ⟨ty72, ty83⟩⟩⟩⟩⟩, ⟨⟨⟨⟨ty85, ty93⟩, ⟨ty95, ty96⟩⟩, ⟨⟨ty99, ty100⟩, ⟨ty106, ⟨ty114, ty117⟩⟩⟩⟩, ⟨⟨⟨ty122, ty124⟩, ⟨ty126, ty135⟩⟩, ⟨⟨ty136, ty153⟩, ⟨ty165, ⟨ty178, ty184⟩⟩⟩⟩⟩⟩
end Go.Proofs.Ytfdfkmcplhloaaa
end

section
set_option linter.unusedSimpArgs false
set_option linter.unusedVariables false
namespace Go.Proofs.Ytfdfkmcplhloaaa
open Go.Proofs
open Nat renaming reduceEqDiff → nE, reduceAdd → nA, reduceLeDiff → nL, reduceLT → nT
abbrev I (i : Int) : AV := .int .i64 i
abbrev B (b : Bool) : AV := .bool b

structure Sec where
  (a b c d e f g h : Int)
  deriving DecidableEq
def Sec.av (s : Sec) : AV := .agg [.int .u8 s.a, .int .u8 s.b, .int .u8 s.c, .int .u8 s.d, .int .u8 s.e, .int .u8 s.f, .int .u8 s.g, .int .u8 s.h]
theorem sec_cells (s : Sec) : s.av.cells.length = 8 := rfl
theorem sec_okc (s : Sec) : s.av.okc = true := rfl
theorem sec_isAgg (s : Sec) : s.av.isAgg = true := rfl
theorem sec_idf (s : Sec) : Idf s.av := by simp only [Sec.av, IDF, and_tt]
theorem sec_idf' (s : Sec) : Idf s.av = True := eq_true (sec_idf s)
theorem sec_ld (s : Sec) : loadV Try.prog 44 s.av 0 = some s.av := by simp only [Sec.av, ty44]; rfl
def sec0 : Sec := ⟨0, 0, 0, 0, 0, 0, 0, 0⟩
theorem sec_eq (x y : Sec) : (eqT Try.prog 10 44 x.av y.av) = some (decide (x = y)) := by
  have h : (eqT Try.prog 10 44 x.av y.av) = if (x.a == y.a) = true then (if (x.b == y.b) = true then (if (x.c == y.c) = true then (if (x.d == y.d) = true then (if (x.e == y.e) = true then (if (x.f == y.f) = true then (if (x.g == y.g) = true then (if (x.h == y.h) = true then some true else some false) else some false) else some false) else some false) else some false) else some false) else some false) else some false := by kernel_rfl
  rw [h]
  cases x; cases y
  simp only [beq_iff_eq, Sec.mk.injEq]
  repeat' split
  all_goals simp_all
theorem sec_guard : Try.prog.eqGuardType Try.prog.depth 44 = false := by kernel_rfl
theorem sec_neq (x y : Sec) : opBinAny Try.prog .neq 44 x.av y.av = some (.bool (!decide (x = y))) := by
  have := sec_eq x y
  unfold Sec.av at this ⊢
  simp only [opBinAny, opBin, opEq, sec_guard, if_true, this, Option.map_some]
theorem sec_eql (x y : Sec) : opBinAny Try.prog .eql 44 x.av y.av = some (.bool (decide (x = y))) := by
  have := sec_eq x y
  unfold Sec.av at this ⊢
  simp only [opBinAny, opBin, opEq, sec_guard, if_true, this, Option.map_some]

structure Wr where
  (vol start : Int)
  data : List Sec
  deriving DecidableEq
def Wr.av (w : Wr) : AV := .agg [I w.vol, I w.start, .lst (w.data.map Sec.av)]
structure Evn where
  (kind wr : Int)
  deriving DecidableEq
def Evn.av (x : Evn) : AV := .agg [I x.kind, I x.wr]
structure Hist where
  sizes : List Int
  ws : List Wr
  evs : List Evn
  deriving DecidableEq
def Hist.av (h : Hist) : AV := .agg [.lst (h.sizes.map I), .lst (h.ws.map Wr.av), .lst (h.evs.map Evn.av)]
def imgAV (im : List (List Sec)) : AV := .lst (im.map fun l => .lst (l.map Sec.av))

theorem wr_idf (w : Wr) : Idf w.av = True := eq_true (by simp only [Wr.av, IDF, sec_idf', and_tt, implies_true])
theorem evn_idf (c : Evn) : Idf c.av = True := eq_true (by simp only [Evn.av, IDF, and_tt, implies_true])
theorem hist_idf (f : Hist) : Idf f.av = True := eq_true (by simp only [Hist.av, IDF, wr_idf, evn_idf, and_tt, implies_true])
theorem img_idf (im : List (List Sec)) : Idf (imgAV im) = True := eq_true (by simp only [imgAV, IDF, sec_idf', and_tt, implies_true])
theorem wr_cells (w : Wr) : w.av.cells.length = 3 := rfl
theorem evn_cells (c : Evn) : c.av.cells.length = 2 := rfl
theorem hist_cells (f : Hist) : f.av.cells.length = 3 := rfl
theorem img_cells (im : List (List Sec)) : (imgAV im).cells = [imgAV im] := rfl
theorem wr_okc (w : Wr) : w.av.okc = true := rfl
theorem evn_okc (c : Evn) : c.av.okc = true := rfl
theorem hist_okc (f : Hist) : f.av.okc = true := rfl
theorem img_okc (im : List (List Sec)) : (imgAV im).okc = true := rfl
theorem wr_isAgg (w : Wr) : w.av.isAgg = true := rfl
theorem evn_isAgg (c : Evn) : c.av.isAgg = true := rfl
theorem hist_isAgg (f : Hist) : f.av.isAgg = true := rfl
theorem wr_cs (w : Wr) : w.av.cells = [I w.vol, I w.start, .lst (w.data.map Sec.av)] := rfl
theorem hist_cs (h : Hist) : h.av.cells = [.lst (h.sizes.map I), .lst (h.ws.map Wr.av), .lst (h.evs.map Evn.av)] := rfl
theorem wr_ld (w : Wr) : loadV Try.prog 34 w.av 0 = some w.av := by simp only [Wr.av, ty34]; rfl
theorem evn_ld (c : Evn) : loadV Try.prog 93 c.av 0 = some c.av := by simp only [Evn.av, ty93]; rfl
theorem hist_ld (f : Hist) : loadV Try.prog 26 f.av 0 = some f.av := by simp only [Hist.av, ty26]; rfl

def Wr.ok (w : Wr) : Prop := w.data.length < 4611686018427387904
def Hist.ok (f : Hist) : Prop := f.sizes.length < 4611686018427387904 ∧ f.ws.length < 4611686018427387904 ∧ f.evs.length < 4611686018427387904 ∧ ∀ w ∈ f.ws, w.ok

theorem at_map {α : Type} {f : α → AV} {xs : List α} {i : Nat} (h : i < xs.length) : (xs.map f)[i]? = some (f xs[i]) := by simp [h]
theorem take_step {α : Type} {xs ys : List α} {i : Nat} (h1 : i < xs.length) (h2 : i < ys.length) (h : xs.take i = ys.take i) (he : xs[i] = ys[i]) : xs.take (i + 1) = ys.take (i + 1) := by
  rw [List.take_add_one, List.take_add_one, h, List.getElem?_eq_getElem h1, List.getElem?_eq_getElem h2, he]
theorem int_okc (xs : List Int) : ∀ e ∈ xs.map I, e.okc = true := fun e he => by
  obtain ⟨a, _, rfl⟩ := List.mem_map.1 he
  rfl
theorem bool_okc (xs : List Bool) : ∀ e ∈ xs.map B, e.okc = true := fun e he => by
  obtain ⟨a, _, rfl⟩ := List.mem_map.1 he
  rfl
theorem secs_okc (xs : List Sec) : ∀ e ∈ xs.map Sec.av, e.okc = true := fun e he => by
  obtain ⟨a, _, rfl⟩ := List.mem_map.1 he
  rfl
theorem wrs_okc (xs : List Wr) : ∀ e ∈ xs.map Wr.av, e.okc = true := fun e he => by
  obtain ⟨a, _, rfl⟩ := List.mem_map.1 he
  rfl
theorem EN : ((((type_of% @upd_nil) ∧ (type_of% @upd_cons)) ∧ ((type_of% @upd_nx) ∧ ((type_of% @get_del) ∧ (type_of% @nx_del)))) ∧ (((type_of% @sec_cells) ∧ (type_of% @sec_okc)) ∧ ((type_of% @sec_isAgg) ∧ ((type_of% @sec_ld) ∧ (type_of% @wr_cells))))) ∧ ((((type_of% @wr_okc) ∧ (type_of% @wr_isAgg)) ∧ ((type_of% @wr_ld) ∧ ((type_of% @evn_cells) ∧ (type_of% @evn_okc)))) ∧ (((type_of% @evn_isAgg) ∧ ((type_of% @evn_ld) ∧ (type_of% @hist_cells))) ∧ ((type_of% @hist_okc) ∧ ((type_of% @hist_isAgg) ∧ (type_of% @hist_ld))))) := ⟨⟨⟨⟨@upd_nil, @upd_cons⟩, ⟨@upd_nx, ⟨@get_del, @nx_del⟩⟩⟩, ⟨⟨@sec_cells, @sec_okc⟩, ⟨@sec_isAgg, ⟨@sec_ld, @wr_cells⟩⟩⟩⟩, ⟨⟨⟨@wr_okc, @wr_isAgg⟩, ⟨@wr_ld, ⟨@evn_cells, @evn_okc⟩⟩⟩, ⟨⟨@evn_isAgg, ⟨@evn_ld, @hist_cells⟩⟩, ⟨@hist_okc, ⟨@hist_isAgg, @hist_ld⟩⟩⟩⟩⟩
theorem IDS : type_of% @IDF ∧ type_of% @sec_idf' ∧ type_of% @wr_idf ∧ type_of% @evn_idf ∧ type_of% @hist_idf ∧ type_of% @img_idf ∧ type_of% @and_tt ∧ type_of% @implies_true.{0} ∧ type_of% @implies_true.{1} := ⟨@IDF, @sec_idf', @wr_idf, @evn_idf, @hist_idf, @img_idf, @and_tt, @implies_true.{0}, @implies_true.{1}⟩
theorem LN : type_of% @List.length_append.{0} ∧ type_of% @List.length_cons.{0} ∧ type_of% @List.length_nil.{0} := ⟨@List.length_append, @List.length_cons, @List.length_nil⟩
theorem SRO : type_of% @SR ∧ type_of% @Option.map_some.{0,0} ∧ type_of% @Option.bind_some.{0,0} := ⟨@SR, @Option.map_some, @Option.bind_some⟩
theorem SZ : type_of% @SX ∧ type_of% @SW ∧ type_of% @TY ∧ type_of% @EN ∧ type_of% @sv_w := ⟨@SX, @SW, @TY, @EN, @sv_w⟩
theorem PB : type_of% @decide_eq_true_eq ∧ type_of% @decide_eq_false_iff_not ∧ type_of% @beq_iff_eq.{0} ∧ type_of% @bne_iff_ne.{0} ∧ type_of% @beq_eq_false_iff_ne.{0} ∧ type_of% @bne_eq_false_iff_eq.{0} ∧ type_of% @Bool.not_eq_true' ∧ type_of% @Bool.not_eq_false' := ⟨@decide_eq_true_eq, @decide_eq_false_iff_not, @beq_iff_eq, @bne_iff_ne, @beq_eq_false_iff_ne, @bne_eq_false_iff_eq, @Bool.not_eq_true', @Bool.not_eq_false'⟩
end Go.Proofs.Ytfdfkmcplhloaaa
end

section
set_option linter.unusedSimpArgs false
set_option linter.unusedVariables false
namespace Go.Proofs.Ytfdfkmcplhloaaa
open Go.Proofs
theorem list2 {α : Type} {l : List α} (h : l.length = 2) : ∃ c0 c1, l = [c0, c1] := by
  rcases l with _ | ⟨c0, l⟩
  · simp at h
  rcases l with _ | ⟨c1, l⟩
  · simp at h
  rcases l with _ | ⟨c2, l⟩
  · exact ⟨c0, c1, rfl⟩
  · simp at h
theorem list3 {α : Type} {l : List α} (h : l.length = 3) : ∃ c0 c1 c2, l = [c0, c1, c2] := by
  rcases l with _ | ⟨c0, l⟩
  · simp at h
  rcases l with _ | ⟨c1, l⟩
  · simp at h
  rcases l with _ | ⟨c2, l⟩
  · simp at h
  rcases l with _ | ⟨c3, l⟩
  · exact ⟨c0, c1, c2, rfl⟩
  · simp at h
theorem list8 {α : Type} {l : List α} (h : l.length = 8) : ∃ c0 c1 c2 c3 c4 c5 c6 c7, l = [c0, c1, c2, c3, c4, c5, c6, c7] := by
  rcases l with _ | ⟨c0, l⟩
  · simp at h
  rcases l with _ | ⟨c1, l⟩
  · simp at h
  rcases l with _ | ⟨c2, l⟩
  · simp at h
  rcases l with _ | ⟨c3, l⟩
  · simp at h
  rcases l with _ | ⟨c4, l⟩
  · simp at h
  rcases l with _ | ⟨c5, l⟩
  · simp at h
  rcases l with _ | ⟨c6, l⟩
  · simp at h
  rcases l with _ | ⟨c7, l⟩
  · simp at h
  rcases l with _ | ⟨c8, l⟩
  · exact ⟨c0, c1, c2, c3, c4, c5, c6, c7, rfl⟩
  · simp at h
theorem take1 {α : Type} {cs : List α} {i : Nat} {c : α} (h : cs[i]? = some c) : (cs.drop i).take 1 = [c] := by
  obtain ⟨h1, rfl⟩ := List.getElem?_eq_some_iff.1 h
  rw [List.drop_eq_getElem_cons h1]
  rfl
theorem dec_sec : Dec Try.prog 44 Sec.av (fun _ => True) := by
  intro H enc w sp fuel cs x h hw
  obtain ⟨hl, he⟩ := array_elems Try.underlying44 h hw
  rw [cel44] at hl
  have g : ∀ i, i < 8 → ∀ c, cs[i]? = some c → ∃ n, VRelL (inX w) w [.int .u8 n] [c] ∧ c.oneCell' = true := by
    intro i hi c hc
    obtain ⟨n, y, hy, hyw⟩ := he i hi
    rw [cel5, Nat.mul_one, take1 hc] at hy
    obtain ⟨a, _, h1, h2⟩ := dec_int Try.underlying5 H enc w sp n _ _ hy hyw
    exact ⟨a, h1, h2 c (by simp)⟩
  obtain ⟨c0, c1, c2, c3, c4, c5, c6, c7, rfl⟩ := list8 hl
  obtain ⟨n0, r0, o0⟩ := g 0 (by omega) c0 rfl
  obtain ⟨n1, r1, o1⟩ := g 1 (by omega) c1 rfl
  obtain ⟨n2, r2, o2⟩ := g 2 (by omega) c2 rfl
  obtain ⟨n3, r3, o3⟩ := g 3 (by omega) c3 rfl
  obtain ⟨n4, r4, o4⟩ := g 4 (by omega) c4 rfl
  obtain ⟨n5, r5, o5⟩ := g 5 (by omega) c5 rfl
  obtain ⟨n6, r6, o6⟩ := g 6 (by omega) c6 rfl
  obtain ⟨n7, r7, o7⟩ := g 7 (by omega) c7 rfl
  refine ⟨⟨n0, n1, n2, n3, n4, n5, n6, n7⟩, trivial, r0.cons1 (r1.cons1 (r2.cons1 (r3.cons1 (r4.cons1 (r5.cons1 (r6.cons1 r7)))))), ?_⟩
  intro u hu
  simp only [List.mem_cons, List.not_mem_nil, or_false] at hu
  rcases hu with rfl | rfl | rfl | rfl | rfl | rfl | rfl | rfl <;> assumption
theorem len_of {n b : Nat} (h : n * b ≤ reachBytes) (hb : (b == 0) = false) : n < 4611686018427387904 := by
  have hb' : b ≠ 0 := by simpa using hb
  have h1 : n ≤ n * b := Nat.le_mul_of_pos_right n (by omega)
  have h2 : reachBytes < 4611686018427387904 := by decide
  omega
theorem dec_list {t e : TypeId} {α : Type} {f : α → AV} {good : α → Prop} (hb : (Try.prog.bytesOf e == 0) = false) (h : Dec Try.prog t (fun xs : List α => .lst (xs.map f)) (fun xs => xs.length * Try.prog.bytesOf e ≤ reachBytes ∧ ∀ a ∈ xs, good a)) : Dec Try.prog t (fun xs : List α => .lst (xs.map f)) (fun xs => xs.length < 4611686018427387904 ∧ ∀ a ∈ xs, good a) :=
  fun H enc w sp fuel cs x hx hw => by
    obtain ⟨a, h1, h2⟩ := h H enc w sp fuel cs x hx hw
    exact ⟨a, ⟨len_of h1.1 hb, h1.2⟩, h2⟩
theorem dec_ints : Dec Try.prog 22 (fun xs : List Int => .lst (xs.map I)) (fun xs => xs.length < 4611686018427387904 ∧ ∀ a ∈ xs, True) :=
  dec_list (e := 3) (by kernel_rfl) (dec_slice Try.underlying22 (dec_int Try.underlying3) (fun _ => by rw [cel3]; rfl) (fun _ => rfl) (by rw [cel3]; rfl))
theorem dec_secs : Dec Try.prog 32 (fun xs : List Sec => .lst (xs.map Sec.av)) (fun xs => xs.length < 4611686018427387904 ∧ ∀ a ∈ xs, True) :=
  dec_list (e := 44) (by kernel_rfl) (dec_slice Try.underlying32 dec_sec (fun _ => by rw [cel44]; rfl) (fun _ => rfl) (by rw [cel44]; rfl))
theorem dec_wr : Dec Try.prog 34 Wr.av Wr.ok := by
  intro H enc w sp fuel cs x h hw
  obtain ⟨hl, hf⟩ := struct_fields Try.underlying34 h hw
  rw [cel34] at hl
  obtain ⟨c0, c1, c2, rfl⟩ := list3 hl
  obtain ⟨n0, y0, h0, w0⟩ := hf 0 3 0 rfl
  obtain ⟨n1, y1, h1, w1⟩ := hf 1 3 1 rfl
  obtain ⟨n2, y2, h2, w2⟩ := hf 2 32 2 rfl
  simp only [cel3, cel32, List.drop_zero, List.drop_succ_cons, List.take_succ_cons, List.take_zero] at h0 h1 h2
  obtain ⟨a0, g0, r0, o0⟩ := dec_int Try.underlying3 H enc w sp n0 _ _ h0 w0
  obtain ⟨a1, g1, r1, o1⟩ := dec_int Try.underlying3 H enc w sp n1 _ _ h1 w1
  obtain ⟨a2, g2, r2, o2⟩ := dec_secs H enc w sp n2 _ _ h2 w2
  refine ⟨⟨a0, a1, a2⟩, g2.1, r0.cons1 (r1.cons1 r2), ?_⟩
  intro u hu
  simp only [List.mem_cons, List.not_mem_nil, or_false] at hu
  rcases hu with rfl | rfl | rfl
  · exact o0 _ (by simp)
  · exact o1 _ (by simp)
  · exact o2 _ (by simp)
theorem dec_wrs : Dec Try.prog 23 (fun xs : List Wr => .lst (xs.map Wr.av)) (fun xs => xs.length < 4611686018427387904 ∧ ∀ a ∈ xs, a.ok) :=
  dec_list (e := 34) (by kernel_rfl) (dec_slice Try.underlying23 dec_wr (fun _ => by rw [cel34]; rfl) (fun _ => rfl) (by rw [cel34]; rfl))
theorem dec_evn : Dec Try.prog 93 Evn.av (fun _ => True) := by
  intro H enc w sp fuel cs x h hw
  obtain ⟨hl, hf⟩ := struct_fields Try.underlying93 h hw
  rw [cel93] at hl
  obtain ⟨c0, c1, rfl⟩ := list2 hl
  obtain ⟨n0, y0, h0, w0⟩ := hf 0 3 0 rfl
  obtain ⟨n1, y1, h1, w1⟩ := hf 1 3 1 rfl
  simp only [cel3, List.drop_zero, List.drop_succ_cons, List.take_succ_cons, List.take_zero] at h0 h1
  obtain ⟨a0, g0, r0, o0⟩ := dec_int Try.underlying3 H enc w sp n0 _ _ h0 w0
  obtain ⟨a1, g1, r1, o1⟩ := dec_int Try.underlying3 H enc w sp n1 _ _ h1 w1
  refine ⟨⟨a0, a1⟩, trivial, r0.cons1 r1, ?_⟩
  intro u hu
  simp only [List.mem_cons, List.not_mem_nil, or_false] at hu
  rcases hu with rfl | rfl
  · exact o0 _ (by simp)
  · exact o1 _ (by simp)
theorem dec_evns : Dec Try.prog 24 (fun xs : List Evn => .lst (xs.map Evn.av)) (fun xs => xs.length < 4611686018427387904 ∧ ∀ a ∈ xs, True) :=
  dec_list (e := 93) (by kernel_rfl) (dec_slice Try.underlying24 dec_evn (fun _ => by rw [cel93]; rfl) (fun _ => rfl) (by rw [cel93]; rfl))
theorem dec_hist : Dec Try.prog 26 Hist.av Hist.ok := by
  intro H enc w sp fuel cs x h hw
  obtain ⟨hl, hf⟩ := struct_fields Try.underlying26 h hw
  rw [cel26] at hl
  obtain ⟨c0, c1, c2, rfl⟩ := list3 hl
  obtain ⟨n0, y0, h0, w0⟩ := hf 0 22 0 rfl
  obtain ⟨n1, y1, h1, w1⟩ := hf 1 23 1 rfl
  obtain ⟨n2, y2, h2, w2⟩ := hf 2 24 2 rfl
  simp only [cel22, cel23, cel24, List.drop_zero, List.drop_succ_cons, List.take_succ_cons, List.take_zero] at h0 h1 h2
  obtain ⟨a0, g0, r0, o0⟩ := dec_ints H enc w sp n0 _ _ h0 w0
  obtain ⟨a1, g1, r1, o1⟩ := dec_wrs H enc w sp n1 _ _ h1 w1
  obtain ⟨a2, g2, r2, o2⟩ := dec_evns H enc w sp n2 _ _ h2 w2
  refine ⟨⟨a0, a1, a2⟩, ⟨g0.1, g1.1, g2.1, g1.2⟩, r0.cons1 (r1.cons1 r2), ?_⟩
  intro u hu
  simp only [List.mem_cons, List.not_mem_nil, or_false] at hu
  rcases hu with rfl | rfl | rfl
  · exact o0 _ (by simp)
  · exact o1 _ (by simp)
  · exact o2 _ (by simp)
theorem dec_img : Dec Try.prog 30 imgAV (fun xs => xs.length < 4611686018427387904 ∧ ∀ a ∈ xs, a.length < 4611686018427387904 ∧ ∀ s ∈ a, True) :=
  dec_list (e := 32) (by kernel_rfl) (dec_slice (f := fun l : List Sec => .lst (l.map Sec.av)) Try.underlying30 dec_secs (fun _ => by rw [cel32]; exact congrArg List.length cells_lst) (fun _ => okc_lst) (by rw [cel32]; rfl))
theorem one_of_wide {P : Program} {t e : TypeId} {b : Nat} {w : World} {v : Value} (hu : P.underlying t = some (.slice e)) (h : Value.okWide P w .any b t v) : v.cells = #[v] := by
  obtain ⟨a0, len, cap, rfl⟩ := Go.WideShapes.okWide_slice hu h
  rfl
end Go.Proofs.Ytfdfkmcplhloaaa
end

section
set_option linter.unusedSimpArgs false
set_option linter.unusedVariables false
namespace Go.Proofs.Ytfdfkmcplhloaaa
open Go.Proofs
open Nat renaming reduceEqDiff → nE, reduceAdd → nA, reduceLeDiff → nL, reduceLT → nT
set_option maxRecDepth 10000
theorem c20 (xs ys : List Int) (hl : xs.length < 4611686018427387904) : Pu Try.prog (.fn (.func 20) [] []) [.lst (xs.map I), .lst (ys.map I)] (B (decide (xs = ys))) := by
 refine pu_func Try.func20 rfl (by kernel_rfl) (by show _ ≤ 26; simp only [LN]; decide) (by simp only [IDS]) (by simp only [IDS]) (by simp only [IDS]) ?_
 rw [Try.ntmps20]
 refine wpT_seq ?_
 refine wpT_region (by kernel_rfl) (fun K hK => ?_)
 simp only [↓SP, SZ, ↓reduceIte, reduceCtorEq, nE, nA, nL, nT]
 refine hK _ _ ?_
 clear hK K
 refine wpT_seq ?_
 refine wpT_seq ?_
 refine wpT_region (by kernel_rfl) (fun K hK => ?_)
 simp only [↓SP, SZ, ↓reduceIte, reduceCtorEq, nE, nA, nL, nT]
 refine hK _ _ ?_
 clear hK K
 refine wpT_if (by rfl) (fun hc10 => ?_) (fun hc10 => ?_)
 ·
  have p10 := hc10
  try simp only [PB] at p10
  have hne : xs ≠ ys := fun e => by subst e; simp at p10
  refine wpT_seq ?_
  refine wpT_region (by kernel_rfl) (fun K hK => ?_)
  simp only [↓SP, SZ, ↓reduceIte, reduceCtorEq, nE, nA, nL, nT, hc10]
  refine hK _ _ ?_
  clear hK K
  refine wpT_ret ⟨.inr rfl, ?_⟩
  show optK (resA _ _ _ [.tmp 4]) _
  simp only [SRO, ↓SP, SZ, ↓reduceIte, reduceCtorEq, nE, nA, nL, nT, hc10]
  refine Lend.eq ?_
  first
    | simp only [hne, decide_false]
    | simp only [he, decide_true]
 ·
  have p10 := hc10
  try simp only [PB] at p10
  have hlen : xs.length = ys.length := by omega
  refine wpT_skip ?_
  refine wpT_seq ?_
  refine wpT_seq ?_
  refine wpT_region (by kernel_rfl) (fun K hK => ?_)
  simp only [↓SP, SZ, ↓reduceIte, reduceCtorEq, nE, nA, nL, nT, hc10]
  refine hK _ _ ?_
  clear hK K
  refine wpT_block ?_
  refine wpT_loop ?_
  refine wpT_keep0 ?_
  refine wpT_ind (fun (i : Nat) tm' h' => (∃ m, h' = Hp.of [] m) ∧ tm' 0 = .lst (xs.map I) ∧ tm' 1 = .lst (ys.map I) ∧ tm' 12 = I xs.length ∧ tm' 13 = I i ∧ i ≤ xs.length ∧ xs.take i = ys.take i) (fun i => xs.length - i) ?_ 0 ⟨⟨_, rfl⟩, rfl, rfl, rfl, rfl, Nat.zero_le _, rfl⟩
  rintro i tm' _ ⟨⟨m, rfl⟩, e0, e1, e12, e13, hi, hx⟩ IH
  refine wpT_inLoop ?_
  refine wpT_seq ?_
  refine wpT_region (by kernel_rfl) (fun K hK => ?_)
  simp only [↓SP, SZ, ↓reduceIte, reduceCtorEq, nE, nA, nL, nT, e12, e13]
  refine hK _ _ ?_
  clear hK K
  refine wpT_seq ?_
  refine wpT_if (by rfl) (fun hc14 => ?_) (fun hc14 => ?_)
  ·
   have p14 := hc14
   try simp only [PB] at p14
   have hlt : i < xs.length := by omega
   have hlt' : i < ys.length := by omega
   have hg := at_map (f := I) hlt
   have hg' := at_map (f := I) hlt'
   refine wpT_skip ?_
   refine wpT_seq ?_
   refine wpT_block ?_
   refine wpT_seq ?_
   refine wpT_region (by kernel_rfl) (fun K hK => ?_)
   simp only [↓SP, SZ, ↓reduceIte, reduceCtorEq, nE, nA, nL, nT, e13, hc14]
   refine hK _ _ ?_
   clear hK K
   refine wpT_seq ?_
   refine wpT_drawn [] mixed (by kernel_rfl) (m := 9) rfl (fun K hK => ?_)
   simp only [↓SP, SZ, ↓reduceIte, reduceCtorEq, nE, nA, nL, nT, e0, e1, hg, hg', hc14]
   refine hK _ _ ?_
   clear hK K
   refine wpT_if (by rfl) (fun hc24 => ?_) (fun hc24 => ?_)
   ·
    have p24 := hc24
    try simp only [PB] at p24
    have hne : xs ≠ ys := fun e => by subst e; simp at p24
    refine wpT_seq ?_
    refine wpT_region (by kernel_rfl) (fun K hK => ?_)
    simp only [↓SP, SZ, ↓reduceIte, reduceCtorEq, nE, nA, nL, nT, hc14, hc24]
    refine hK _ _ ?_
    clear hK K
    refine wpT_ret ⟨.inr rfl, ?_⟩
    show optK (resA _ _ _ [.tmp 4]) _
    simp only [SRO, ↓SP, SZ, ↓reduceIte, reduceCtorEq, nE, nA, nL, nT, hc14, hc24]
    refine Lend.eq ?_
    first
      | simp only [hne, decide_false]
      | simp only [he, decide_true]
   ·
    have p24 := hc24
    try simp only [PB] at p24
    have hx' := take_step hlt hlt' hx p24
    refine wpT_skip ?_
    refine wpT_inBlock ?_
    refine wpT_region (by kernel_rfl) (fun K hK => ?_)
    simp only [↓SP, SZ, ↓reduceIte, reduceCtorEq, nE, nA, nL, nT, e13, wrap64 (x := (i : Int) + 1) (by omega) (by omega), hc14, hc24]
    refine hK _ _ ?_
    clear hK K
    refine wpT_keep0 ?_
    refine IH (i + 1) _ _ (by omega) ⟨⟨_, rfl⟩, by simp only [↓SP, SZ, ↓reduceIte, reduceCtorEq, nE, nA, nL, nT, e0], by simp only [↓SP, SZ, ↓reduceIte, reduceCtorEq, nE, nA, nL, nT, e1], by simp only [↓SP, SZ, ↓reduceIte, reduceCtorEq, nE, nA, nL, nT, e12], by simp only [↓SP, SZ, ↓reduceIte, reduceCtorEq, nE, nA, nL, nT, Int.natCast_add, Int.cast_ofNat_Int], by omega, hx'⟩
  ·
   have p14 := hc14
   try simp only [PB] at p14
   have he : xs = ys := by
     rw [List.take_of_length_le (by omega), List.take_of_length_le (by omega)] at hx
     exact hx
   refine wpT_exit rfl ?_
   refine wpT_seq ?_
   refine wpT_region (by kernel_rfl) (fun K hK => ?_)
   simp only [↓SP, SZ, ↓reduceIte, reduceCtorEq, nE, nA, nL, nT, hc14]
   refine hK _ _ ?_
   clear hK K
   refine wpT_ret ⟨.inr rfl, ?_⟩
   show optK (resA _ _ _ [.tmp 4]) _
   simp only [SRO, ↓SP, SZ, ↓reduceIte, reduceCtorEq, nE, nA, nL, nT, hc14]
   refine Lend.eq ?_
   first
     | simp only [hne, decide_false]
     | simp only [he, decide_true]
theorem c41 (xs ys : List Sec) (hl : xs.length < 4611686018427387904) : Pu Try.prog (.fn (.func 41) [] []) [.lst (xs.map Sec.av), .lst (ys.map Sec.av)] (B (decide (xs = ys))) := by
 refine pu_func Try.func41 rfl (by kernel_rfl) (by show _ ≤ 26; simp only [List.length_append, List.length_cons, List.length_nil]; decide) (by simp only [IDF]) (by simp only [IDF, and_tt, implies_true]) (by simp only [IDF, sec_idf', and_tt, implies_true]) ?_
 rw [Try.ntmps41]
 refine wpT_seq ?_
 refine wpT_region (by kernel_rfl) (fun K hK => ?_)
 simp only [↓SP, SZ, ↓reduceIte, reduceCtorEq, nE, nA, nL, nT, sec_neq]
 refine hK _ _ ?_
 clear hK K
 refine wpT_seq ?_
 refine wpT_seq ?_
 refine wpT_region (by kernel_rfl) (fun K hK => ?_)
 simp only [↓SP, SZ, ↓reduceIte, reduceCtorEq, nE, nA, nL, nT, sec_neq]
 refine hK _ _ ?_
 clear hK K
 refine wpT_if (by rfl) (fun hc10 => ?_) (fun hc10 => ?_)
 ·
  have p10 := hc10
  try simp only [PB] at p10
  have hne : xs ≠ ys := fun e => by subst e; simp at p10
  refine wpT_seq ?_
  refine wpT_region (by kernel_rfl) (fun K hK => ?_)
  simp only [↓SP, SZ, ↓reduceIte, reduceCtorEq, nE, nA, nL, nT, sec_neq, hc10]
  refine hK _ _ ?_
  clear hK K
  refine wpT_ret ⟨.inr rfl, ?_⟩
  show optK (resA _ _ _ [.tmp 4]) _
  simp only [SRO, ↓SP, SZ, ↓reduceIte, reduceCtorEq, nE, nA, nL, nT, sec_neq, hc10]
  refine Lend.eq ?_
  first
    | simp only [hne, decide_false]
    | simp only [he, decide_true]
 ·
  have p10 := hc10
  try simp only [PB] at p10
  have hlen : xs.length = ys.length := by omega
  refine wpT_skip ?_
  refine wpT_seq ?_
  refine wpT_seq ?_
  refine wpT_region (by kernel_rfl) (fun K hK => ?_)
  simp only [↓SP, SZ, ↓reduceIte, reduceCtorEq, nE, nA, nL, nT, sec_neq, hc10]
  refine hK _ _ ?_
  clear hK K
  refine wpT_block ?_
  refine wpT_loop ?_
  refine wpT_keep0 ?_
  refine wpT_ind (fun (i : Nat) tm' h' => (∃ m, h' = Hp.of [] m) ∧ tm' 0 = .lst (xs.map Sec.av) ∧ tm' 1 = .lst (ys.map Sec.av) ∧ tm' 5 = I i ∧ i ≤ xs.length ∧ xs.take i = ys.take i) (fun i => xs.length - i) ?_ 0 ⟨⟨_, rfl⟩, rfl, rfl, rfl, Nat.zero_le _, rfl⟩
  rintro i tm' _ ⟨⟨m, rfl⟩, e0, e1, e5, hi, hx⟩ IH
  refine wpT_inLoop ?_
  refine wpT_seq ?_
  refine wpT_seq ?_
  refine wpT_region (by kernel_rfl) (fun K hK => ?_)
  simp only [↓SP, SZ, ↓reduceIte, reduceCtorEq, nE, nA, nL, nT, sec_neq, e0, e5]
  refine hK _ _ ?_
  clear hK K
  refine wpT_if (by rfl) (fun hc14 => ?_) (fun hc14 => ?_)
  ·
   have p14 := hc14
   try simp only [PB] at p14
   have hlt : i < xs.length := by omega
   have hlt' : i < ys.length := by omega
   have hg := at_map (f := Sec.av) hlt
   have hg' := at_map (f := Sec.av) hlt'
   refine wpT_skip ?_
   refine wpT_seq ?_
   refine wpT_block ?_
   refine wpT_seq ?_
   refine wpT_drawn [] mixed (by kernel_rfl) (m := 9) rfl (fun K hK => ?_)
   simp only [↓SP, SZ, ↓reduceIte, reduceCtorEq, nE, nA, nL, nT, sec_neq, e0, e1, e5, hg, hg', hc14]
   refine hK _ _ ?_
   clear hK K
   refine wpT_if (by rfl) (fun hc25 => ?_) (fun hc25 => ?_)
   ·
    have p25 := hc25
    try simp only [PB] at p25
    have hne : xs ≠ ys := fun e => by subst e; simp at p25
    refine wpT_seq ?_
    refine wpT_region (by kernel_rfl) (fun K hK => ?_)
    simp only [↓SP, SZ, ↓reduceIte, reduceCtorEq, nE, nA, nL, nT, sec_neq, hc14, hc25]
    refine hK _ _ ?_
    clear hK K
    refine wpT_ret ⟨.inr rfl, ?_⟩
    show optK (resA _ _ _ [.tmp 4]) _
    simp only [SRO, ↓SP, SZ, ↓reduceIte, reduceCtorEq, nE, nA, nL, nT, sec_neq, hc14, hc25]
    refine Lend.eq ?_
    first
      | simp only [hne, decide_false]
      | simp only [he, decide_true]
   ·
    have p25 := hc25
    try simp only [PB] at p25
    have hx' := take_step hlt hlt' hx (by simpa using p25)
    refine wpT_skip ?_
    refine wpT_inBlock ?_
    refine wpT_region (by kernel_rfl) (fun K hK => ?_)
    simp only [↓SP, SZ, ↓reduceIte, reduceCtorEq, nE, nA, nL, nT, sec_neq, e5, wrap64 (x := (i : Int) + 1) (by omega) (by omega), hc14, hc25]
    refine hK _ _ ?_
    clear hK K
    refine wpT_keep0 ?_
    refine IH (i + 1) _ _ (by omega) ⟨⟨_, rfl⟩, by simp only [↓SP, SZ, ↓reduceIte, reduceCtorEq, nE, nA, nL, nT, sec_neq, e0], by simp only [↓SP, SZ, ↓reduceIte, reduceCtorEq, nE, nA, nL, nT, sec_neq, e1], by simp only [↓SP, SZ, ↓reduceIte, reduceCtorEq, nE, nA, nL, nT, sec_neq, Int.natCast_add, Int.cast_ofNat_Int], by omega, hx'⟩
  ·
   have p14 := hc14
   try simp only [PB] at p14
   have he : xs = ys := by
     rw [List.take_of_length_le (by omega), List.take_of_length_le (by omega)] at hx
     exact hx
   refine wpT_exit rfl ?_
   refine wpT_seq ?_
   refine wpT_region (by kernel_rfl) (fun K hK => ?_)
   simp only [↓SP, SZ, ↓reduceIte, reduceCtorEq, nE, nA, nL, nT, sec_neq, hc14]
   refine hK _ _ ?_
   clear hK K
   refine wpT_ret ⟨.inr rfl, ?_⟩
   show optK (resA _ _ _ [.tmp 4]) _
   simp only [SRO, ↓SP, SZ, ↓reduceIte, reduceCtorEq, nE, nA, nL, nT, sec_neq, hc14]
   refine Lend.eq ?_
   first
     | simp only [hne, decide_false]
     | simp only [he, decide_true]
end Go.Proofs.Ytfdfkmcplhloaaa
end

section
set_option linter.unusedSimpArgs false
set_option linter.unusedVariables false
namespace Go.Proofs.Ytfdfkmcplhloaaa
open Go.Proofs
open Nat renaming reduceEqDiff → nE, reduceAdd → nA, reduceLeDiff → nL, reduceLT → nT
set_option maxRecDepth 10000
theorem wr_ext {x y : Wr} (h1 : x.vol = y.vol) (h2 : x.start = y.start) (h3 : x.data = y.data) : x = y := by cases x; cases y; simp_all
theorem c15 (xs ys : List Wr) (hl : xs.length < 4611686018427387904) (hw : ∀ w ∈ xs, w.data.length < 4611686018427387904) : Pu Try.prog (.fn (.func 15) [] []) [.lst (xs.map Wr.av), .lst (ys.map Wr.av)] (B (decide (xs = ys))) := by
 refine pu_func Try.func15 rfl (by kernel_rfl) (by show _ ≤ 55; simp only [List.length_append, List.length_cons, List.length_nil]; decide) (by simp only [IDF]) (by simp only [IDF, and_tt, implies_true]) (by simp only [IDF, wr_idf, and_tt, implies_true]) ?_
 rw [Try.ntmps15]
 refine wpT_seq ?_
 refine wpT_region (by kernel_rfl) (fun K hK => ?_)
 simp only [↓SP, SZ, ↓reduceIte, reduceCtorEq, nE, nA, nL, nT, wr_cs]
 refine hK _ _ ?_
 clear hK K
 refine wpT_seq ?_
 refine wpT_seq ?_
 refine wpT_region (by kernel_rfl) (fun K hK => ?_)
 simp only [↓SP, SZ, ↓reduceIte, reduceCtorEq, nE, nA, nL, nT, wr_cs]
 refine hK _ _ ?_
 clear hK K
 refine wpT_if (by rfl) (fun hc10 => ?_) (fun hc10 => ?_)
 ·
  have p10 := hc10
  try simp only [PB] at p10
  have hne : xs ≠ ys := fun e => by subst e; simp at p10
  refine wpT_seq ?_
  refine wpT_region (by kernel_rfl) (fun K hK => ?_)
  simp only [↓SP, SZ, ↓reduceIte, reduceCtorEq, nE, nA, nL, nT, wr_cs, hc10]
  refine hK _ _ ?_
  clear hK K
  refine wpT_ret ⟨.inr rfl, ?_⟩
  show optK (resA _ _ _ [.tmp 4]) _
  simp only [SRO, ↓SP, SZ, ↓reduceIte, reduceCtorEq, nE, nA, nL, nT, wr_cs, hc10]
  refine Lend.eq ?_
  first
    | simp only [hne, decide_false]
    | simp only [he, decide_true]
 ·
  have p10 := hc10
  try simp only [PB] at p10
  have hlen : xs.length = ys.length := by omega
  refine wpT_skip ?_
  refine wpT_seq ?_
  refine wpT_seq ?_
  refine wpT_region (by kernel_rfl) (fun K hK => ?_)
  simp only [↓SP, SZ, ↓reduceIte, reduceCtorEq, nE, nA, nL, nT, wr_cs, hc10]
  refine hK _ _ ?_
  clear hK K
  refine wpT_block ?_
  refine wpT_loop ?_
  refine wpT_keep0 ?_
  refine wpT_ind (fun (i : Nat) tm' h' => (∃ m, h' = Hp.of [] m) ∧ tm' 0 = .lst (xs.map Wr.av) ∧ tm' 1 = .lst (ys.map Wr.av) ∧ tm' 5 = I i ∧ i ≤ xs.length ∧ xs.take i = ys.take i) (fun i => xs.length - i) ?_ 0 ⟨⟨_, rfl⟩, rfl, rfl, rfl, Nat.zero_le _, rfl⟩
  rintro i tm' _ ⟨⟨m, rfl⟩, e0, e1, e5, hi, hx⟩ IH
  refine wpT_inLoop ?_
  refine wpT_seq ?_
  refine wpT_seq ?_
  refine wpT_region (by kernel_rfl) (fun K hK => ?_)
  simp only [↓SP, SZ, ↓reduceIte, reduceCtorEq, nE, nA, nL, nT, wr_cs, e0, e5]
  refine hK _ _ ?_
  clear hK K
  refine wpT_if (by rfl) (fun hc14 => ?_) (fun hc14 => ?_)
  ·
   have p14 := hc14
   try simp only [PB] at p14
   have hlt : i < xs.length := by omega
   have hlt' : i < ys.length := by omega
   have hg := at_map (f := Wr.av) hlt
   have hg' := at_map (f := Wr.av) hlt'
   have hwi := hw xs[i] (List.getElem_mem hlt)
   refine wpT_skip ?_
   refine wpT_seq ?_
   refine wpT_block ?_
   refine wpT_seq ?_
   refine wpT_drawn [] mixed (by kernel_rfl) (m := 38) rfl (fun K hK => ?_)
   simp only [↓SP, SZ, ↓reduceIte, reduceCtorEq, nE, nA, nL, nT, wr_cs, e0, e1, e5, hg, hg', hc14]
   refine guardD_split (fun hg28 => ?_) (fun hg28 => ?_)
   ·
    have p28 := hg28
    try simp only [PB] at p28
    simp only [↓SP, SZ, ↓reduceIte, reduceCtorEq, nE, nA, nL, nT, wr_cs, e0, e1, e5, hg, hg', hc14, hg28]
    refine guardD_split (fun hg41 => ?_) (fun hg41 => ?_)
    ·
     have p41 := hg41
     try simp only [PB] at p41
     simp only [↓SP, SZ, ↓reduceIte, reduceCtorEq, nE, nA, nL, nT, wr_cs, e0, e1, e5, hg, hg', hc14, hg28, hg41]
     refine Pu.callD (c41 _ _ hwi) ?_
     simp only [↓SP, SZ, ↓reduceIte, reduceCtorEq, nE, nA, nL, nT, wr_cs, e0, e1, e5, hg, hg', hc14, hg28, hg41]
     refine hK _ _ ?_
     clear hK K
     refine wpT_if (by rfl) (fun hc54 => ?_) (fun hc54 => ?_)
     ·
      have p54 := hc54
      try simp only [PB] at p54
      have hne : xs ≠ ys := by
        rintro rfl
        simp_all
      refine wpT_seq ?_
      refine wpT_region (by kernel_rfl) (fun K hK => ?_)
      simp only [↓SP, SZ, ↓reduceIte, reduceCtorEq, nE, nA, nL, nT, wr_cs, hc14, hg28, hg41, hc54]
      refine hK _ _ ?_
      clear hK K
      refine wpT_ret ⟨.inr rfl, ?_⟩
      show optK (resA _ _ _ [.tmp 4]) _
      simp only [SRO, ↓SP, SZ, ↓reduceIte, reduceCtorEq, nE, nA, nL, nT, wr_cs, hc14, hg28, hg41, hc54]
      refine Lend.eq ?_
      first
        | simp only [hne, decide_false]
        | simp only [he, decide_true]
     ·
      have p54 := hc54
      try simp only [PB] at p54
      have hx' := take_step hlt hlt' hx (wr_ext (by simp_all) (by simp_all) (by simp_all))
      refine wpT_skip ?_
      refine wpT_inBlock ?_
      refine wpT_region (by kernel_rfl) (fun K hK => ?_)
      simp only [↓SP, SZ, ↓reduceIte, reduceCtorEq, nE, nA, nL, nT, wr_cs, e5, wrap64 (x := (i : Int) + 1) (by omega) (by omega), hc14, hg28, hg41, hc54]
      refine hK _ _ ?_
      clear hK K
      refine wpT_keep0 ?_
      refine IH (i + 1) _ _ (by omega) ⟨⟨_, rfl⟩, by simp only [↓SP, SZ, ↓reduceIte, reduceCtorEq, nE, nA, nL, nT, wr_cs, e0], by simp only [↓SP, SZ, ↓reduceIte, reduceCtorEq, nE, nA, nL, nT, wr_cs, e1], by simp only [↓SP, SZ, ↓reduceIte, reduceCtorEq, nE, nA, nL, nT, wr_cs, Int.natCast_add, Int.cast_ofNat_Int], by omega, hx'⟩
    ·
     simp only [Bool.not_true, Bool.not_false] at hg41
     have p41 := hg41
     try simp only [PB] at p41
     simp only [↓SP, SZ, ↓reduceIte, reduceCtorEq, nE, nA, nL, nT, wr_cs, e0, e1, e5, hg, hg', hc14, hg28, hg41]
     refine hK _ _ ?_
     clear hK K
     refine wpT_ifT (by simp only [↓SP, SZ, ↓reduceIte, reduceCtorEq, nE, nA, nL, nT, wr_cs, hc14, hg28, hg41]) ?_
     have hne : xs ≠ ys := by
       rintro rfl
       simp_all
     refine wpT_seq ?_
     refine wpT_region (by kernel_rfl) (fun K hK => ?_)
     simp only [↓SP, SZ, ↓reduceIte, reduceCtorEq, nE, nA, nL, nT, wr_cs, hc14, hg28, hg41]
     refine hK _ _ ?_
     clear hK K
     refine wpT_ret ⟨.inr rfl, ?_⟩
     show optK (resA _ _ _ [.tmp 4]) _
     simp only [SRO, ↓SP, SZ, ↓reduceIte, reduceCtorEq, nE, nA, nL, nT, wr_cs, hc14, hg28, hg41]
     refine Lend.eq ?_
     first
       | simp only [hne, decide_false]
       | simp only [he, decide_true]
   ·
    simp only [Bool.not_true, Bool.not_false] at hg28
    have p28 := hg28
    try simp only [PB] at p28
    simp only [↓SP, SZ, ↓reduceIte, reduceCtorEq, nE, nA, nL, nT, wr_cs, e0, e1, e5, hg, hg', hc14, hg28]
    refine hK _ _ ?_
    clear hK K
    refine wpT_ifT (by simp only [↓SP, SZ, ↓reduceIte, reduceCtorEq, nE, nA, nL, nT, wr_cs, hc14, hg28]) ?_
    have hne : xs ≠ ys := by
      rintro rfl
      simp_all
    refine wpT_seq ?_
    refine wpT_region (by kernel_rfl) (fun K hK => ?_)
    simp only [↓SP, SZ, ↓reduceIte, reduceCtorEq, nE, nA, nL, nT, wr_cs, hc14, hg28]
    refine hK _ _ ?_
    clear hK K
    refine wpT_ret ⟨.inr rfl, ?_⟩
    show optK (resA _ _ _ [.tmp 4]) _
    simp only [SRO, ↓SP, SZ, ↓reduceIte, reduceCtorEq, nE, nA, nL, nT, wr_cs, hc14, hg28]
    refine Lend.eq ?_
    first
      | simp only [hne, decide_false]
      | simp only [he, decide_true]
  ·
   have p14 := hc14
   try simp only [PB] at p14
   have he : xs = ys := by
     rw [List.take_of_length_le (by omega), List.take_of_length_le (by omega)] at hx
     exact hx
   refine wpT_exit rfl ?_
   refine wpT_seq ?_
   refine wpT_region (by kernel_rfl) (fun K hK => ?_)
   simp only [↓SP, SZ, ↓reduceIte, reduceCtorEq, nE, nA, nL, nT, wr_cs, hc14]
   refine hK _ _ ?_
   clear hK K
   refine wpT_ret ⟨.inr rfl, ?_⟩
   show optK (resA _ _ _ [.tmp 4]) _
   simp only [SRO, ↓SP, SZ, ↓reduceIte, reduceCtorEq, nE, nA, nL, nT, wr_cs, hc14]
   refine Lend.eq ?_
   first
     | simp only [hne, decide_false]
     | simp only [he, decide_true]
end Go.Proofs.Ytfdfkmcplhloaaa
end

section
set_option linter.unusedSimpArgs false
set_option linter.unusedVariables false
namespace Go.Proofs.Ytfdfkmcplhloaaa
open Go.Proofs
open Nat renaming reduceEqDiff → nE, reduceAdd → nA, reduceLeDiff → nL, reduceLT → nT
set_option maxRecDepth 10000
def szR : List Int → Int
  | [] => 0
  | x :: xs => if x < 1 ∨ x > 4096 then 2 else szR xs
def sizesE (xs : List Int) : Int := if xs.length < 1 ∨ xs.length > 8 then 6 else szR xs
def fitsE (sz : List Int) (w : Wr) : Int :=
  if w.vol < 0 ∨ w.vol ≥ sz.length then 7 else if w.data.length = 0 then 1 else
  if w.start < 0 ∨ w.start ≥ sz.getD w.vol.toNat 0 ∨ w.data.length > sz.getD w.vol.toNat 0 - w.start then 2 else 0
theorem szR_le : ∀ {xs : List Int}, szR xs = 0 → ∀ x ∈ xs, 1 ≤ x ∧ x ≤ 4096
  | [], _ => by simp
  | x :: xs, h => by
    rw [szR] at h
    split at h
    · simp at h
    · intro y hy
      rcases List.mem_cons.1 hy with rfl | hy
      · omega
      · exact szR_le h y hy
theorem sizesE_le {xs : List Int} (h : sizesE xs = 0) : ∀ x ∈ xs, 1 ≤ x ∧ x ≤ 4096 := by
  unfold sizesE at h
  split at h
  · simp at h
  · exact szR_le h
end Go.Proofs.Ytfdfkmcplhloaaa
end

section
set_option linter.unusedSimpArgs false
set_option linter.unusedVariables false
namespace Go.Proofs.Ytfdfkmcplhloaaa
open Go.Proofs
open Nat renaming reduceEqDiff → nE, reduceAdd → nA, reduceLeDiff → nL, reduceLT → nT
set_option maxRecDepth 10000
theorem msO_ok (by' : Nat) (n k : Int) (h0 : 0 ≤ n) (h1 : n ≤ k) (h2 : k ≤ 9223372036854775807) (h3 : (by' : Int) * k ≤ 281474976710656) (e c : Nat) (z : AV) (nid : Nat) : msO e c by' z n k nid = some (.sl nid n.toNat 0 n.toNat, .new (.arr e c (List.replicate n.toNat z))) := if_pos ⟨h0, h1, h2, h3⟩
def idxP {α : Type} (p : α → Bool) : Nat → List α → Int
  | _, [] => -1
  | i, x :: xs => if p x = true then i else idxP p (i + 1) xs
theorem idxP_ge {α : Type} (p : α → Bool) : ∀ (i : Nat) (xs : List α), (decide (idxP p i xs ≥ 0)) = xs.any p
  | _, [] => by simp [idxP]
  | i, x :: xs => by
    rw [idxP]
    split
    · simp_all
    · rw [idxP_ge p (i + 1) xs]; simp_all
theorem c102 (xs : List Int) (fv : AV) (p : Int → Bool) (hl : xs.length < 4611686018427387904) (hfv : Idf fv) (hp : ∀ x ∈ xs, Pu Try.prog fv [I x] (B (p x))) : Pu Try.prog (.fn (.func 102) [] []) [.lst (xs.map I), fv] (I (idxP p 0 xs)) := by
 refine pu_func Try.func102 rfl (by kernel_rfl) (by show _ ≤ 19; simp only [List.length_append, List.length_cons, List.length_nil]; decide) (by simp only [IDF]) (by simp only [IDF, and_tt, implies_true]) (by simp only [IDF, eq_true hfv, and_tt, implies_true]) ?_
 rw [Try.ntmps102]
 refine wpT_seq ?_
 refine wpT_region (by kernel_rfl) (fun K hK => ?_)
 simp only [↓SP, SZ, ↓reduceIte, reduceCtorEq, nE, nA, nL, nT]
 refine hK _ _ ?_
 clear hK K
 refine wpT_seq ?_
 refine wpT_seq ?_
 refine wpT_region (by kernel_rfl) (fun K hK => ?_)
 simp only [↓SP, SZ, ↓reduceIte, reduceCtorEq, nE, nA, nL, nT]
 refine hK _ _ ?_
 clear hK K
 refine wpT_block ?_
 refine wpT_loop ?_
 refine wpT_keep0 ?_
 refine wpT_ind (fun (i : Nat) tm' h' => (∃ m, h' = Hp.of [] m) ∧ tm' 0 = .lst (xs.map I) ∧ tm' 1 = fv ∧ tm' 7 = I xs.length ∧ tm' 8 = I i ∧ i ≤ xs.length ∧ idxP p i (xs.drop i) = idxP p 0 xs) (fun i => xs.length - i) ?_ 0 ⟨⟨_, rfl⟩, rfl, rfl, rfl, rfl, by omega, rfl⟩
 rintro i tm' _ ⟨⟨m, rfl⟩, e0, e1, e7, e8, hi, hx⟩ IH
 refine wpT_inLoop ?_
 refine wpT_seq ?_
 refine wpT_region (by kernel_rfl) (fun K hK => ?_)
 simp only [↓SP, SZ, ↓reduceIte, reduceCtorEq, nE, nA, nL, nT, e7, e8]
 refine hK _ _ ?_
 clear hK K
 refine wpT_seq ?_
 refine wpT_if (by rfl) (fun hc9 => ?_) (fun hc9 => ?_)
 ·
  have p9 := hc9
  try simp only [PB] at p9
  have hlt : i < xs.length := by omega
  have hg := at_map (f := I) hlt
  rw [List.drop_eq_getElem_cons hlt, idxP] at hx
  refine wpT_skip ?_
  refine wpT_seq ?_
  refine wpT_block ?_
  refine wpT_seq ?_
  refine wpT_region (by kernel_rfl) (fun K hK => ?_)
  simp only [↓SP, SZ, ↓reduceIte, reduceCtorEq, nE, nA, nL, nT, e8, hc9]
  refine hK _ _ ?_
  clear hK K
  refine wpT_seq ?_
  refine wpT_region (by kernel_rfl) (fun K hK => ?_)
  simp only [↓SP, SZ, ↓reduceIte, reduceCtorEq, nE, nA, nL, nT, e0, e1, hg, hc9]
  refine Pu.call (hp _ (List.getElem_mem hlt)) ?_
  simp only [↓SP, SZ, ↓reduceIte, reduceCtorEq, nE, nA, nL, nT, e0, e1, hg, hc9]
  refine hK _ _ ?_
  clear hK K
  refine wpT_if (by rfl) (fun hc16 => ?_) (fun hc16 => ?_)
  ·
   have p16 := hc16
   try simp only [PB] at p16
   rw [if_pos hc16] at hx
   refine wpT_seq ?_
   refine wpT_region (by kernel_rfl) (fun K hK => ?_)
   simp only [↓SP, SZ, ↓reduceIte, reduceCtorEq, nE, nA, nL, nT, hc9, hc16]
   refine hK _ _ ?_
   clear hK K
   refine wpT_ret ⟨.inr rfl, ?_⟩
   show optK (resA _ _ _ [.tmp 4]) _
   simp only [SRO, ↓SP, SZ, ↓reduceIte, reduceCtorEq, nE, nA, nL, nT, hc9, hc16]
   refine Lend.eq ?_
   rw [← hx]
  ·
   have p16 := hc16
   try simp only [PB] at p16
   rw [if_neg (by simp [hc16])] at hx
   refine wpT_skip ?_
   refine wpT_inBlock ?_
   refine wpT_region (by kernel_rfl) (fun K hK => ?_)
   simp only [↓SP, SZ, ↓reduceIte, reduceCtorEq, nE, nA, nL, nT, e8, wrap64 (x := (i : Int) + 1) (by omega) (by omega), hc9, hc16]
   refine hK _ _ ?_
   clear hK K
   refine wpT_keep0 ?_
   refine IH (i + 1) _ _ (by omega) ⟨⟨_, rfl⟩, by simp only [↓SP, SZ, ↓reduceIte, reduceCtorEq, nE, nA, nL, nT, e0], by simp only [↓SP, SZ, ↓reduceIte, reduceCtorEq, nE, nA, nL, nT, e1], by simp only [↓SP, SZ, ↓reduceIte, reduceCtorEq, nE, nA, nL, nT, e7], by simp only [↓SP, SZ, ↓reduceIte, reduceCtorEq, nE, nA, nL, nT, Int.natCast_add, Int.cast_ofNat_Int], by omega, hx⟩
 ·
  have p9 := hc9
  try simp only [PB] at p9
  rw [List.drop_eq_nil_of_le (by omega), idxP] at hx
  refine wpT_exit rfl ?_
  refine wpT_seq ?_
  refine wpT_region (by kernel_rfl) (fun K hK => ?_)
  simp only [↓SP, SZ, ↓reduceIte, reduceCtorEq, nE, nA, nL, nT, hc9]
  refine hK _ _ ?_
  clear hK K
  refine wpT_ret ⟨.inr rfl, ?_⟩
  show optK (resA _ _ _ [.tmp 4]) _
  simp only [SRO, ↓SP, SZ, ↓reduceIte, reduceCtorEq, nE, nA, nL, nT, hc9]
  refine Lend.eq ?_
  rw [← hx]
theorem c58 (xs : List Int) (fv : AV) (p : Int → Bool) (hl : xs.length < 4611686018427387904) (hfv : Idf fv) (hp : ∀ x ∈ xs, Pu Try.prog fv [I x] (B (p x))) : Pu Try.prog (.fn (.func 58) [] []) [.lst (xs.map I), fv] (B (xs.any p)) := by
 refine pu_func Try.func58 rfl (by kernel_rfl) (by show _ ≤ 9; simp only [List.length_append, List.length_cons, List.length_nil]; decide) (by simp only [IDF]) (by simp only [IDF, and_tt, implies_true]) (by simp only [IDF, eq_true hfv, and_tt, implies_true]) ?_
 rw [Try.ntmps58]
 refine wpT_seq ?_
 refine wpT_region (by kernel_rfl) (fun K hK => ?_)
 simp only [↓SP, SZ, ↓reduceIte, reduceCtorEq, nE, nA, nL, nT]
 refine hK _ _ ?_
 clear hK K
 refine wpT_seq ?_
 refine wpT_region (by kernel_rfl) (fun K hK => ?_)
 simp only [↓SP, SZ, ↓reduceIte, reduceCtorEq, nE, nA, nL, nT, idxP_ge]
 refine Pu.call (c102 xs fv p hl hfv hp) ?_
 simp only [↓SP, SZ, ↓reduceIte, reduceCtorEq, nE, nA, nL, nT, idxP_ge]
 refine hK _ _ ?_
 clear hK K
 refine wpT_ret ⟨.inr rfl, ?_⟩
 show optK (resA _ _ _ [.tmp 4]) _
 simp only [SRO, ↓SP, SZ, ↓reduceIte, reduceCtorEq, nE, nA, nL, nT]
 exact .refl _
theorem c111 (n : Int) : Pu Try.prog (.fn (.func 111) [] []) [I n] (B (decide (n < 1 ∨ n > 4096))) := by
 refine pu_func Try.func111 rfl (by kernel_rfl) (by show _ ≤ 9; simp only [LN]; decide) (by simp only [IDS]) (by simp only [IDS]) (by simp only [IDS]) ?_
 rw [Try.ntmps111]
 refine wpT_seq ?_
 refine wpT_region (by kernel_rfl) (fun K hK => ?_)
 simp only [↓SP, SZ, ↓reduceIte, reduceCtorEq, nE, nA, nL, nT]
 refine hK _ _ ?_
 clear hK K
 refine wpT_seq ?_
 refine wpT_region (by kernel_rfl) (fun K hK => ?_)
 simp only [↓SP, SZ, ↓reduceIte, reduceCtorEq, nE, nA, nL, nT]
 refine guardO_split (fun hg5 => ?_) (fun hg5 => ?_)
 ·
  have p5 := hg5
  try simp only [PB] at p5
  simp only [↓SP, SZ, ↓reduceIte, reduceCtorEq, nE, nA, nL, nT, hg5]
  refine hK _ _ ?_
  clear hK K
  refine wpT_ret ⟨.inr rfl, ?_⟩
  show optK (resA _ _ _ [.tmp 2]) _
  simp only [SRO, ↓SP, SZ, ↓reduceIte, reduceCtorEq, nE, nA, nL, nT, hg5]
  refine Lend.eq ?_
  congr 1
  first
    | exact (decide_eq_true (by omega)).symm
    | exact decide_eq_decide.2 (by omega)
 ·
  simp only [Bool.not_true, Bool.not_false] at hg5
  have p5 := hg5
  try simp only [PB] at p5
  simp only [↓SP, SZ, ↓reduceIte, reduceCtorEq, nE, nA, nL, nT, hg5]
  refine hK _ _ ?_
  clear hK K
  refine wpT_ret ⟨.inr rfl, ?_⟩
  show optK (resA _ _ _ [.tmp 2]) _
  simp only [SRO, ↓SP, SZ, ↓reduceIte, reduceCtorEq, nE, nA, nL, nT, hg5]
  refine Lend.eq ?_
  congr 1
  first
    | exact (decide_eq_true (by omega)).symm
    | exact decide_eq_decide.2 (by omega)
theorem szR_any : ∀ xs : List Int, szR xs = if (xs.any fun n => decide (n < 1 ∨ n > 4096)) = true then 2 else 0
  | [] => rfl
  | x :: xs => by
    rw [szR, szR_any xs]
    by_cases h : x < 1 ∨ x > 4096
    · rw [if_pos h, if_pos (by simp [h])]
    · rw [if_neg h]; simp only [List.any_cons, decide_eq_false h, Bool.false_or]
theorem c86 (xs : List Int) (hl : xs.length < 4611686018427387904) : Pu Try.prog (.fn (.func 86) [] []) [.lst (xs.map I)] (I (sizesE xs)) := by
 refine pu_func Try.func86 rfl (by kernel_rfl) (by show _ ≤ 13; simp only [LN]; decide) (by simp only [IDS]) (by simp only [IDS]) (by simp only [IDS]) ?_
 rw [Try.ntmps86]
 refine wpT_seq ?_
 refine wpT_region (by kernel_rfl) (fun K hK => ?_)
 simp only [↓SP, SZ, ↓reduceIte, reduceCtorEq, nE, nA, nL, nT]
 refine hK _ _ ?_
 clear hK K
 refine wpT_seq ?_
 refine wpT_seq ?_
 refine wpT_region (by kernel_rfl) (fun K hK => ?_)
 simp only [↓SP, SZ, ↓reduceIte, reduceCtorEq, nE, nA, nL, nT]
 refine guardO_split (fun hg6 => ?_) (fun hg6 => ?_)
 ·
  have p6 := hg6
  try simp only [PB] at p6
  simp only [↓SP, SZ, ↓reduceIte, reduceCtorEq, nE, nA, nL, nT, hg6]
  refine hK _ _ ?_
  clear hK K
  refine wpT_if (by rfl) (fun hc10 => ?_) (fun hc10 => ?_)
  ·
   have p10 := hc10
   try simp only [PB] at p10
   have hx : sizesE xs = 6 := if_pos (by omega)
   refine wpT_seq ?_
   refine wpT_region (by kernel_rfl) (fun K hK => ?_)
   simp only [↓SP, SZ, ↓reduceIte, reduceCtorEq, nE, nA, nL, nT, hg6, hc10]
   refine hK _ _ ?_
   clear hK K
   refine wpT_ret ⟨.inr rfl, ?_⟩
   show optK (resA _ _ _ [.tmp 2]) _
   simp only [SRO, ↓SP, SZ, ↓reduceIte, reduceCtorEq, nE, nA, nL, nT, hg6, hc10]
   refine Lend.eq ?_
   rw [hx]
  ·
   have p10 := hc10
   try simp only [PB] at p10
   have hx : sizesE xs = szR xs := if_neg (by omega)
   rw [szR_any] at hx
   refine wpT_skip ?_
   refine wpT_seq ?_
   refine wpT_seq ?_
   refine wpT_region (by kernel_rfl) (fun K hK => ?_)
   simp only [↓SP, SZ, ↓reduceIte, reduceCtorEq, nE, nA, nL, nT, hg6, hc10]
   refine Pu.call (c58 xs _ _ hl (by simp only [IDF, and_tt]) (fun x _ => c111 x)) ?_
   simp only [↓SP, SZ, ↓reduceIte, reduceCtorEq, nE, nA, nL, nT, hg6, hc10]
   refine hK _ _ ?_
   clear hK K
   refine wpT_if (by rfl) (fun hc12 => ?_) (fun hc12 => ?_)
   ·
    have p12 := hc12
    try simp only [PB] at p12
    rw [if_pos hc12] at hx
    refine wpT_seq ?_
    refine wpT_region (by kernel_rfl) (fun K hK => ?_)
    simp only [↓SP, SZ, ↓reduceIte, reduceCtorEq, nE, nA, nL, nT, hg6, hc10, hc12]
    refine hK _ _ ?_
    clear hK K
    refine wpT_ret ⟨.inr rfl, ?_⟩
    show optK (resA _ _ _ [.tmp 2]) _
    simp only [SRO, ↓SP, SZ, ↓reduceIte, reduceCtorEq, nE, nA, nL, nT, hg6, hc10, hc12]
    refine Lend.eq ?_
    rw [hx]
   ·
    have p12 := hc12
    try simp only [PB] at p12
    rw [if_neg (by rw [hc12]; simp)] at hx
    refine wpT_skip ?_
    refine wpT_seq ?_
    refine wpT_region (by kernel_rfl) (fun K hK => ?_)
    simp only [↓SP, SZ, ↓reduceIte, reduceCtorEq, nE, nA, nL, nT, hg6, hc10, hc12]
    refine hK _ _ ?_
    clear hK K
    refine wpT_ret ⟨.inr rfl, ?_⟩
    show optK (resA _ _ _ [.tmp 2]) _
    simp only [SRO, ↓SP, SZ, ↓reduceIte, reduceCtorEq, nE, nA, nL, nT, hg6, hc10, hc12]
    refine Lend.eq ?_
    rw [hx]
 ·
  simp only [Bool.not_true, Bool.not_false] at hg6
  have p6 := hg6
  try simp only [PB] at p6
  simp only [↓SP, SZ, ↓reduceIte, reduceCtorEq, nE, nA, nL, nT, hg6]
  refine hK _ _ ?_
  clear hK K
  refine wpT_ifT (by simp only [↓SP, SZ, ↓reduceIte, reduceCtorEq, nE, nA, nL, nT, hg6]) ?_
  have hx : sizesE xs = 6 := if_pos (by omega)
  refine wpT_seq ?_
  refine wpT_region (by kernel_rfl) (fun K hK => ?_)
  simp only [↓SP, SZ, ↓reduceIte, reduceCtorEq, nE, nA, nL, nT, hg6]
  refine hK _ _ ?_
  clear hK K
  refine wpT_ret ⟨.inr rfl, ?_⟩
  show optK (resA _ _ _ [.tmp 2]) _
  simp only [SRO, ↓SP, SZ, ↓reduceIte, reduceCtorEq, nE, nA, nL, nT, hg6]
  refine Lend.eq ?_
  rw [hx]
end Go.Proofs.Ytfdfkmcplhloaaa
end

section
set_option linter.unusedSimpArgs false
set_option linter.unusedVariables false
namespace Go.Proofs.Ytfdfkmcplhloaaa
open Go.Proofs
open Nat renaming reduceEqDiff → nE, reduceAdd → nA, reduceLeDiff → nL, reduceLT → nT
set_option maxRecDepth 10000
def zeros (n : Int) : List Sec := List.replicate n.toNat sec0
theorem c88 (n : Int) (h0 : 0 ≤ n) (h1 : n ≤ 4096) : Pu Try.prog (.fn (.func 88) [] []) [I n] (.lst ((zeros n).map Sec.av)) := by
 refine pu_func Try.func88 rfl (by kernel_rfl) (by show _ ≤ 5; simp only [List.length_append, List.length_cons, List.length_nil]; decide) (by simp only [IDF, sec_idf', implies_true]) (by simp only [IDF, and_tt, implies_true]) (by simp only [IDF, and_tt, implies_true]) ?_
 rw [Try.ntmps88]
 refine wpT_seq ?_
 refine wpT_region (by kernel_rfl) (fun K hK => ?_)
 simp only [↓SP, SZ, ↓reduceIte, reduceCtorEq, nE, nA, nL, nT]
 refine hK _ _ ?_
 clear hK K
 refine wpT_seq ?_
 refine wpT_region (by kernel_rfl) (fun K hK => ?_)
 simp only [↓SP, SZ, ↓reduceIte, reduceCtorEq, nE, nA, nL, nT, msO_ok 8 n n h0 (Int.le_refl _) (by omega) (by omega)]
 refine hK _ _ ?_
 clear hK K
 refine wpT_ret ⟨.inr rfl, ?_⟩
 show optK (resA _ _ _ [.tmp 2]) _
 simp only [SRO, ↓SP, SZ, ↓reduceIte, reduceCtorEq, nE, nA, nL, nT]
 have he : (zeros n).map Sec.av = List.replicate n.toNat (.agg [.int .u8 0, .int .u8 0, .int .u8 0, .int .u8 0, .int .u8 0, .int .u8 0, .int .u8 0, .int .u8 0]) := by simp [zeros, Sec.av, sec0]
 rw [he]
 exact Lend.sl0 (id := 0) (E := 44) (s := 8) (n := n.toNat) (by rfl) (by simp) (by simp [AV.okc])
theorem c87 (xs : List Int) (fv : AV) (g : Int → List AV) (hl : xs.length ≤ 4096) (hfv : Idf fv) (hp : ∀ x ∈ xs, Pu Try.prog fv [I x] (.lst (g x))) : Pu Try.prog (.fn (.func 87) [] []) [.lst (xs.map I), fv] (.lst (xs.map fun x => .lst (g x))) := by
 refine pu_func Try.func87 rfl (by kernel_rfl) (by show _ ≤ 25; simp only [List.length_append, List.length_cons, List.length_nil]; decide) (by simp only [IDF]; exact fun x hx => by simpa only [IDF] using (hp x hx).hr) (by simp only [IDF, and_tt, implies_true]) (by simp only [IDF, eq_true hfv, and_tt, implies_true]) ?_
 rw [Try.ntmps87]
 refine wpT_seq ?_
 refine wpT_region (by kernel_rfl) (fun K hK => ?_)
 simp only [↓SP, SZ, ↓reduceIte, reduceCtorEq, nE, nA, nL, nT]
 refine hK _ _ ?_
 clear hK K
 refine wpT_seq ?_
 refine wpT_region (by kernel_rfl) (fun K hK => ?_)
 simp only [↓SP, SZ, ↓reduceIte, reduceCtorEq, nE, nA, nL, nT, msO_ok 24 0 (xs.length : Int) (by omega) (by omega) (by omega) (by omega), Int.toNat_zero, List.replicate_zero]
 refine hK _ _ ?_
 clear hK K
 refine wpT_seq ?_
 refine wpT_seq ?_
 refine wpT_region (by kernel_rfl) (fun K hK => ?_)
 simp only [↓SP, SZ, ↓reduceIte, reduceCtorEq, nE, nA, nL, nT]
 refine hK _ _ ?_
 clear hK K
 refine wpT_block ?_
 refine wpT_loop ?_
 refine wpT_keep1 (i := 0) (o := .arr 32 1 []) (by simp only [↓SP, SZ, ↓reduceIte, reduceCtorEq, nE, nA, nL, nT]) ?_
 refine wpT_ind (fun (i : Nat) tm' h' => (∃ m, h' = Hp.of [(0, .arr 32 1 ((xs.take i).map fun x => .lst (g x)))] (m + 1)) ∧ tm' 1 = fv ∧ tm' 5 = .sl 0 i 0 i ∧ tm' 11 = .lst (xs.map I) ∧ tm' 12 = I xs.length ∧ tm' 13 = I i ∧ i ≤ xs.length) (fun i => xs.length - i) ?_ 0 ⟨⟨0, rfl⟩, rfl, rfl, rfl, rfl, rfl, by omega⟩
 rintro i tm' _ ⟨⟨m, rfl⟩, e1, e5, e11, e12, e13, hi⟩ IH
 refine wpT_inLoop ?_
 refine wpT_seq ?_
 refine wpT_region (by kernel_rfl) (fun K hK => ?_)
 simp only [↓SP, SZ, ↓reduceIte, reduceCtorEq, nE, nA, nL, nT, e12, e13]
 refine hK _ _ ?_
 clear hK K
 refine wpT_seq ?_
 refine wpT_if (by rfl) (fun hc14 => ?_) (fun hc14 => ?_)
 ·
  have p14 := hc14
  try simp only [PB] at p14
  have hlt : i < xs.length := by omega
  have hg := at_map (f := I) hlt
  have q1 : i + 1 ≤ maxLen := by simp only [maxLen]; omega
  have q2 : (i + 1) * 24 ≤ 140737488355328 := by omega
  have q3 : (List.map (fun x => AV.lst (g x)) (xs.take i)).length = i := by simp; omega
  have q4 : (xs.take (i + 1)).map (fun x => AV.lst (g x)) = (xs.take i).map (fun x => AV.lst (g x)) ++ [.lst (g xs[i])] := by rw [List.take_add_one, List.getElem?_eq_getElem hlt, List.map_append]; rfl
  refine wpT_skip ?_
  refine wpT_seq ?_
  refine wpT_block ?_
  refine wpT_seq ?_
  refine wpT_region (by kernel_rfl) (fun K hK => ?_)
  simp only [↓SP, SZ, ↓reduceIte, reduceCtorEq, nE, nA, nL, nT, e11, e13, hg, hc14]
  refine hK _ _ ?_
  clear hK K
  refine wpT_region (by kernel_rfl) (fun K hK => ?_)
  simp only [↓SP, SZ, ↓reduceIte, reduceCtorEq, nE, nA, nL, nT, e1, e5, q1, q2, List.length_take, Nat.min_eq_left hi, hc14]
  refine Pu.call (hp _ (List.getElem_mem hlt)) ?_
  simp only [↓SP, SZ, ↓reduceIte, reduceCtorEq, nE, nA, nL, nT, e1, e5, q1, q2, List.length_take, Nat.min_eq_left hi, hc14]
  refine hK _ _ ?_
  clear hK K
  refine wpT_inBlock ?_
  refine wpT_region (by kernel_rfl) (fun K hK => ?_)
  simp only [↓SP, SZ, ↓reduceIte, reduceCtorEq, nE, nA, nL, nT, e13, wrap64 (x := (i : Int) + 1) (by omega) (by omega), hc14]
  refine hK _ _ ?_
  clear hK K
  refine wpT_keep1 (i := 0) (o := .arr 32 1 ((xs.take (i + 1)).map fun x => .lst (g x))) (by simp only [↓SP, SZ, ↓reduceIte, reduceCtorEq, nE, nA, nL, nT, q4]) ?_
  refine IH (i + 1) _ _ (by omega) ⟨⟨_, rfl⟩, by simp only [↓SP, SZ, ↓reduceIte, reduceCtorEq, nE, nA, nL, nT, e1], by simp only [↓SP, SZ, ↓reduceIte, reduceCtorEq, nE, nA, nL, nT], by simp only [↓SP, SZ, ↓reduceIte, reduceCtorEq, nE, nA, nL, nT, e11], by simp only [↓SP, SZ, ↓reduceIte, reduceCtorEq, nE, nA, nL, nT, e12], by simp only [↓SP, SZ, ↓reduceIte, reduceCtorEq, nE, nA, nL, nT, Int.natCast_add, Int.cast_ofNat_Int], by omega⟩
 ·
  have p14 := hc14
  try simp only [PB] at p14
  have hi2 : i = xs.length := by omega
  subst hi2
  refine wpT_exit rfl ?_
  refine wpT_seq ?_
  refine wpT_region (by kernel_rfl) (fun K hK => ?_)
  simp only [↓SP, SZ, ↓reduceIte, reduceCtorEq, nE, nA, nL, nT, e5, List.take_length, hc14]
  refine hK _ _ ?_
  clear hK K
  refine wpT_ret ⟨.inr rfl, ?_⟩
  show optK (resA _ _ _ [.tmp 4]) _
  simp only [SRO, ↓SP, SZ, ↓reduceIte, reduceCtorEq, nE, nA, nL, nT, hc14]
  exact Lend.sl0 (id := 0) (E := 32) (s := 1) (n := xs.length) (by simp only [of_cons, if_true, List.take_length]) (by simp) (by simp [AV.okc])
def newImg (xs : List Int) : List (List Sec) := if sizesE xs ≠ 0 then [] else xs.map zeros
theorem c44 (xs : List Int) (hl : xs.length < 4611686018427387904) : Pu Try.prog (.fn (.func 44) [] []) [.lst (xs.map I)] (.tup [imgAV (newImg xs), I (sizesE xs)]) := by
 refine pu_func Try.func44 rfl (by kernel_rfl) (by show _ ≤ 12; simp only [List.length_append, List.length_cons, List.length_nil]; decide) (by simp only [IDF, img_idf, and_tt]) (by simp only [IDF, and_tt, implies_true]) (by simp only [IDF, and_tt, implies_true]) ?_
 rw [Try.ntmps44]
 refine wpT_seq ?_
 refine wpT_region (by kernel_rfl) (fun K hK => ?_)
 simp only [↓SP, SZ, ↓reduceIte, reduceCtorEq, nE, nA, nL, nT]
 refine hK _ _ ?_
 clear hK K
 refine wpT_seq ?_
 refine wpT_seq ?_
 refine wpT_region (by kernel_rfl) (fun K hK => ?_)
 simp only [↓SP, SZ, ↓reduceIte, reduceCtorEq, nE, nA, nL, nT]
 refine Pu.call (c86 xs hl) ?_
 simp only [↓SP, SZ, ↓reduceIte, reduceCtorEq, nE, nA, nL, nT]
 refine hK _ _ ?_
 clear hK K
 refine wpT_seq ?_
 refine wpT_region (by kernel_rfl) (fun K hK => ?_)
 simp only [↓SP, SZ, ↓reduceIte, reduceCtorEq, nE, nA, nL, nT]
 refine hK _ _ ?_
 clear hK K
 refine wpT_if (by rfl) (fun hc8 => ?_) (fun hc8 => ?_)
 ·
  have p8 := hc8
  try simp only [PB] at p8
  have hx : newImg xs = [] := if_pos p8
  refine wpT_seq ?_
  refine wpT_region (by kernel_rfl) (fun K hK => ?_)
  simp only [↓SP, SZ, ↓reduceIte, reduceCtorEq, nE, nA, nL, nT, hc8]
  refine hK _ _ ?_
  clear hK K
  refine wpT_ret ⟨.inr rfl, ?_⟩
  show optK (resA _ _ _ [.tmp 2, .tmp 3]) _
  simp only [SRO, ↓SP, SZ, ↓reduceIte, reduceCtorEq, nE, nA, nL, nT, hc8]
  rw [hx]
  refine Lend.tupL (LendL.cons ?_ (LendL.cons ?_ LendL.nil))
  · first
      | exact .nil0
      | exact Lend.eq (by simp [imgAV])
  · exact Lend.eq (by first | rfl | rw [p8])
 ·
  have p8 := hc8
  try simp only [PB] at p8
  have hx : newImg xs = xs.map zeros := if_neg (by omega)
  have hz := sizesE_le p8
  have hl8 : xs.length ≤ 8 := by
    unfold sizesE at p8
    split at p8
    · simp at p8
    · omega
  refine wpT_skip ?_
  refine wpT_seq ?_
  refine wpT_region (by kernel_rfl) (fun K hK => ?_)
  simp only [↓SP, SZ, ↓reduceIte, reduceCtorEq, nE, nA, nL, nT, hc8]
  refine Pu.call (c87 xs _ (fun x => (zeros x).map Sec.av) (by omega) (by simp only [IDF, and_tt]) (fun x hx => c88 x (by have := hz x hx; omega) (hz x hx).2)) ?_
  simp only [↓SP, SZ, ↓reduceIte, reduceCtorEq, nE, nA, nL, nT, hc8]
  refine hK _ _ ?_
  clear hK K
  refine wpT_ret ⟨.inr rfl, ?_⟩
  show optK (resA _ _ _ [.tmp 2, .tmp 3]) _
  simp only [SRO, ↓SP, SZ, ↓reduceIte, reduceCtorEq, nE, nA, nL, nT, hc8]
  rw [hx]
  refine Lend.tupL (LendL.cons ?_ (LendL.cons ?_ LendL.nil))
  · first
      | exact .nil0
      | exact Lend.eq (by simp [imgAV])
  · exact Lend.eq (by first | rfl | rw [p8])
end Go.Proofs.Ytfdfkmcplhloaaa
end

section
set_option linter.unusedSimpArgs false
set_option linter.unusedVariables false
namespace Go.Proofs.Ytfdfkmcplhloaaa
open Go.Proofs
open Nat renaming reduceEqDiff → nE, reduceAdd → nA, reduceLeDiff → nL, reduceLT → nT
set_option maxRecDepth 10000
def sizesOf (im : List (List Sec)) : List Int := im.map fun l => (l.length : Int)
theorem c117 (l : List Sec) : Pu Try.prog (.fn (.func 117) [] []) [.lst (l.map Sec.av)] (I l.length) := by
 refine pu_func Try.func117 rfl (by kernel_rfl) (by show _ ≤ 5; simp only [List.length_append, List.length_cons, List.length_nil]; decide) (by simp only [IDF]) (by simp only [IDF, and_tt, implies_true]) (by simp only [IDF, sec_idf', and_tt, implies_true]) ?_
 rw [Try.ntmps117]
 refine wpT_seq ?_
 refine wpT_region (by kernel_rfl) (fun K hK => ?_)
 simp only [↓SP, SZ, ↓reduceIte, reduceCtorEq, nE, nA, nL, nT]
 refine hK _ _ ?_
 clear hK K
 refine wpT_seq ?_
 refine wpT_region (by kernel_rfl) (fun K hK => ?_)
 simp only [↓SP, SZ, ↓reduceIte, reduceCtorEq, nE, nA, nL, nT]
 refine hK _ _ ?_
 clear hK K
 refine wpT_ret ⟨.inr rfl, ?_⟩
 show optK (resA _ _ _ [.tmp 2]) _
 simp only [SRO, ↓SP, SZ, ↓reduceIte, reduceCtorEq, nE, nA, nL, nT]
 exact .refl _
theorem c116 (xs : List (List Sec)) (fv : AV) (g : List Sec → Int) (hl : xs.length ≤ 4096000) (hfv : Idf fv) (hp : ∀ x ∈ xs, Pu Try.prog fv [.lst (x.map Sec.av)] (I (g x))) : Pu Try.prog (.fn (.func 116) [] []) [imgAV xs, fv] (.lst ((xs.map g).map I)) := by
 refine pu_func Try.func116 rfl (by kernel_rfl) (by show _ ≤ 25; simp only [List.length_append, List.length_cons, List.length_nil]; decide) (by simp only [IDF, implies_true]) (by simp only [IDF, and_tt, implies_true]) (by simp only [IDF, img_idf, eq_true hfv, and_tt, implies_true]) ?_
 rw [Try.ntmps116]
 refine wpT_seq ?_
 refine wpT_region (by kernel_rfl) (fun K hK => ?_)
 simp only [↓SP, SZ, ↓reduceIte, reduceCtorEq, nE, nA, nL, nT, imgAV]
 refine hK _ _ ?_
 clear hK K
 refine wpT_seq ?_
 refine wpT_region (by kernel_rfl) (fun K hK => ?_)
 simp only [↓SP, SZ, ↓reduceIte, reduceCtorEq, nE, nA, nL, nT, imgAV, msO_ok 8 0 (xs.length : Int) (by omega) (by omega) (by omega) (by omega), Int.toNat_zero, List.replicate_zero]
 refine hK _ _ ?_
 clear hK K
 refine wpT_seq ?_
 refine wpT_seq ?_
 refine wpT_region (by kernel_rfl) (fun K hK => ?_)
 simp only [↓SP, SZ, ↓reduceIte, reduceCtorEq, nE, nA, nL, nT, imgAV]
 refine hK _ _ ?_
 clear hK K
 refine wpT_block ?_
 refine wpT_loop ?_
 refine wpT_keep1 (i := 0) (o := .arr 3 1 []) (by simp only [↓SP, SZ, ↓reduceIte, reduceCtorEq, nE, nA, nL, nT]) ?_
 refine wpT_ind (fun (i : Nat) tm' h' => (∃ m, h' = Hp.of [(0, .arr 3 1 ((xs.take i).map fun x => I (g x)))] (m + 1)) ∧ tm' 1 = fv ∧ tm' 5 = .sl 0 i 0 i ∧ tm' 11 = imgAV xs ∧ tm' 12 = I xs.length ∧ tm' 13 = I i ∧ i ≤ xs.length) (fun i => xs.length - i) ?_ 0 ⟨⟨0, rfl⟩, rfl, rfl, rfl, rfl, rfl, by omega⟩
 rintro i tm' _ ⟨⟨m, rfl⟩, e1, e5, e11, e12, e13, hi⟩ IH
 refine wpT_inLoop ?_
 refine wpT_seq ?_
 refine wpT_region (by kernel_rfl) (fun K hK => ?_)
 simp only [↓SP, SZ, ↓reduceIte, reduceCtorEq, nE, nA, nL, nT, imgAV, e12, e13]
 refine hK _ _ ?_
 clear hK K
 refine wpT_seq ?_
 refine wpT_if (by rfl) (fun hc14 => ?_) (fun hc14 => ?_)
 ·
  have p14 := hc14
  try simp only [PB] at p14
  have hlt : i < xs.length := by omega
  have hg := at_map (f := fun l : List Sec => AV.lst (l.map Sec.av)) hlt
  have q1 : i + 1 ≤ maxLen := by simp only [maxLen]; omega
  have q2 : (i + 1) * 8 ≤ 140737488355328 := by omega
  have q4 : (xs.take (i + 1)).map (fun x => I (g x)) = (xs.take i).map (fun x => I (g x)) ++ [I (g xs[i])] := by rw [List.take_add_one, List.getElem?_eq_getElem hlt, List.map_append]; rfl
  refine wpT_skip ?_
  refine wpT_seq ?_
  refine wpT_block ?_
  refine wpT_seq ?_
  refine wpT_region (by kernel_rfl) (fun K hK => ?_)
  simp only [↓SP, SZ, ↓reduceIte, reduceCtorEq, nE, nA, nL, nT, imgAV, e11, e13, hg, hc14]
  refine hK _ _ ?_
  clear hK K
  refine wpT_region (by kernel_rfl) (fun K hK => ?_)
  simp only [↓SP, SZ, ↓reduceIte, reduceCtorEq, nE, nA, nL, nT, imgAV, e1, e5, q1, q2, List.length_take, Nat.min_eq_left hi, hc14]
  refine Pu.call (hp _ (List.getElem_mem hlt)) ?_
  simp only [↓SP, SZ, ↓reduceIte, reduceCtorEq, nE, nA, nL, nT, imgAV, e1, e5, q1, q2, List.length_take, Nat.min_eq_left hi, hc14]
  refine hK _ _ ?_
  clear hK K
  refine wpT_inBlock ?_
  refine wpT_region (by kernel_rfl) (fun K hK => ?_)
  simp only [↓SP, SZ, ↓reduceIte, reduceCtorEq, nE, nA, nL, nT, imgAV, e13, wrap64 (x := (i : Int) + 1) (by omega) (by omega), hc14]
  refine hK _ _ ?_
  clear hK K
  refine wpT_keep1 (i := 0) (o := .arr 3 1 ((xs.take (i + 1)).map fun x => I (g x))) (by simp only [↓SP, SZ, ↓reduceIte, reduceCtorEq, nE, nA, nL, nT, q4]) ?_
  refine IH (i + 1) _ _ (by omega) ⟨⟨_, rfl⟩, by simp only [↓SP, SZ, ↓reduceIte, reduceCtorEq, nE, nA, nL, nT, e1], by simp only [↓SP, SZ, ↓reduceIte, reduceCtorEq, nE, nA, nL, nT], by simp only [↓SP, SZ, ↓reduceIte, reduceCtorEq, nE, nA, nL, nT, e11], by simp only [↓SP, SZ, ↓reduceIte, reduceCtorEq, nE, nA, nL, nT, e12], by simp only [↓SP, SZ, ↓reduceIte, reduceCtorEq, nE, nA, nL, nT, Int.natCast_add, Int.cast_ofNat_Int], by omega⟩
 ·
  have p14 := hc14
  try simp only [PB] at p14
  have hi2 : i = xs.length := by omega
  subst hi2
  refine wpT_exit rfl ?_
  refine wpT_seq ?_
  refine wpT_region (by kernel_rfl) (fun K hK => ?_)
  simp only [↓SP, SZ, ↓reduceIte, reduceCtorEq, nE, nA, nL, nT, imgAV, e5, List.take_length, hc14]
  refine hK _ _ ?_
  clear hK K
  refine wpT_ret ⟨.inr rfl, ?_⟩
  show optK (resA _ _ _ [.tmp 4]) _
  simp only [SRO, ↓SP, SZ, ↓reduceIte, reduceCtorEq, nE, nA, nL, nT, imgAV, hc14]
  exact Lend.sl0 (id := 0) (E := 3) (s := 1) (n := xs.length) (by simp only [of_cons, if_true, List.take_length, List.map_map]; rfl) (by simp) (by simp [AV.okc])
theorem c104 (im : List (List Sec)) (hl : im.length ≤ 4096000) : Pu Try.prog (.fn (.func 104) [] []) [imgAV im] (.lst ((sizesOf im).map I)) := by
 refine pu_func Try.func104 rfl (by kernel_rfl) (by show _ ≤ 5; simp only [List.length_append, List.length_cons, List.length_nil]; decide) (by simp only [IDF, implies_true]) (by simp only [IDF, and_tt, implies_true]) (by simp only [IDF, img_idf, and_tt, implies_true]) ?_
 rw [Try.ntmps104]
 refine wpT_seq ?_
 refine wpT_region (by kernel_rfl) (fun K hK => ?_)
 simp only [↓SP, SZ, ↓reduceIte, reduceCtorEq, nE, nA, nL, nT]
 refine hK _ _ ?_
 clear hK K
 refine wpT_seq ?_
 refine wpT_region (by kernel_rfl) (fun K hK => ?_)
 simp only [↓SP, SZ, ↓reduceIte, reduceCtorEq, nE, nA, nL, nT]
 refine Pu.call (c116 im _ _ hl (by simp only [IDF, and_tt]) (fun x _ => c117 x)) ?_
 simp only [↓SP, SZ, ↓reduceIte, reduceCtorEq, nE, nA, nL, nT]
 refine hK _ _ ?_
 clear hK K
 refine wpT_ret ⟨.inr rfl, ?_⟩
 show optK (resA _ _ _ [.tmp 2]) _
 simp only [SRO, ↓SP, SZ, ↓reduceIte, reduceCtorEq, nE, nA, nL, nT]
 exact .refl _
theorem c71 (im : List (List Sec)) (hl : im.length ≤ 4096000) : Pu Try.prog (.fn (.func 71) [] []) [imgAV im] (I (sizesE (sizesOf im))) := by
 refine pu_func Try.func71 rfl (by kernel_rfl) (by show _ ≤ 6; simp only [List.length_append, List.length_cons, List.length_nil]; decide) (by simp only [IDF, implies_true]) (by simp only [IDF, and_tt, implies_true]) (by simp only [IDF, img_idf, and_tt, implies_true]) ?_
 rw [Try.ntmps71]
 refine wpT_seq ?_
 refine wpT_region (by kernel_rfl) (fun K hK => ?_)
 simp only [↓SP, SZ, ↓reduceIte, reduceCtorEq, nE, nA, nL, nT]
 refine hK _ _ ?_
 clear hK K
 refine wpT_seq ?_
 refine wpT_region (by kernel_rfl) (fun K hK => ?_)
 simp only [↓SP, SZ, ↓reduceIte, reduceCtorEq, nE, nA, nL, nT]
 refine Pu.call (c104 im hl) ?_
 simp only [↓SP, SZ, ↓reduceIte, reduceCtorEq, nE, nA, nL, nT]
 refine Pu.call (c86 (sizesOf im) (by simp [sizesOf]; omega)) ?_
 simp only [↓SP, SZ, ↓reduceIte, reduceCtorEq, nE, nA, nL, nT]
 refine hK _ _ ?_
 clear hK K
 refine wpT_ret ⟨.inr rfl, ?_⟩
 show optK (resA _ _ _ [.tmp 2]) _
 simp only [SRO, ↓SP, SZ, ↓reduceIte, reduceCtorEq, nE, nA, nL, nT]
 exact .refl _
theorem c89 (im : List (List Sec)) (w : Wr) (hl : im.length < 4611686018427387904) (hm : ∀ l ∈ im, l.length < 4611686018427387904) (hw : w.data.length < 4611686018427387904) : Pu Try.prog (.fn (.func 89) [] []) [imgAV im, w.av] (I (fitsE (sizesOf im) w)) := by
 refine pu_func Try.func89 rfl (by kernel_rfl) (by show _ ≤ 40; simp only [List.length_append, List.length_cons, List.length_nil]; decide) (by simp only [IDF, implies_true]) (by simp only [IDF, and_tt, implies_true]) (by simp only [IDF, img_idf, wr_idf, and_tt, implies_true]) ?_
 have hsl : (sizesOf im).length = im.length := by simp [sizesOf]
 rw [Try.ntmps89]
 refine wpT_seq ?_
 refine wpT_region (by kernel_rfl) (fun K hK => ?_)
 simp only [↓SP, SZ, ↓reduceIte, reduceCtorEq, nE, nA, nL, nT, imgAV, Wr.av]
 refine hK _ _ ?_
 clear hK K
 refine wpT_seq ?_
 refine wpT_block ?_
 refine wpT_seq ?_
 refine wpT_region (by kernel_rfl) (fun K hK => ?_)
 simp only [↓SP, SZ, ↓reduceIte, reduceCtorEq, nE, nA, nL, nT, imgAV, Wr.av]
 refine guardO_split (fun hg9 => ?_) (fun hg9 => ?_)
 ·
  have p9 := hg9
  try simp only [PB] at p9
  simp only [↓SP, SZ, ↓reduceIte, reduceCtorEq, nE, nA, nL, nT, imgAV, Wr.av, hg9]
  refine hK _ _ ?_
  clear hK K
  refine wpT_if (by rfl) (fun hc5 => ?_) (fun hc5 => ?_)
  ·
   have p5 := hc5
   try simp only [PB] at p5
   have hx : fitsE (sizesOf im) w = 7 := if_pos (by omega)
   refine wpT_seq ?_
   refine wpT_region (by kernel_rfl) (fun K hK => ?_)
   simp only [↓SP, SZ, ↓reduceIte, reduceCtorEq, nE, nA, nL, nT, imgAV, Wr.av, hg9, hc5]
   refine hK _ _ ?_
   clear hK K
   refine wpT_ret ⟨.inr rfl, ?_⟩
   show optK (resA _ _ _ [.tmp 4]) _
   simp only [SRO, ↓SP, SZ, ↓reduceIte, reduceCtorEq, nE, nA, nL, nT, imgAV, Wr.av, hg9, hc5]
   refine Lend.eq ?_
   first
     | rw [hx]
     | rw [hx0, if_pos (by omega)]
     | rw [hx0, if_neg (by omega), if_pos (by omega)]
     | rw [hx0, if_neg (by omega), if_neg (by omega)]
  ·
   have p5 := hc5
   try simp only [PB] at p5
   obtain ⟨n, hv⟩ := Int.eq_ofNat_of_zero_le (a := w.vol) (by omega)
   have hlt : n < im.length := by omega
   have hg := at_map (f := fun l : List Sec => AV.lst (l.map Sec.av)) hlt
   have hmn := hm _ (List.getElem_mem hlt)
   have hd : (sizesOf im).getD w.vol.toNat 0 = im[n].length := by rw [hv]; simp [sizesOf, List.getD_eq_getElem?_getD, hlt]
   have hw1 : IntKind.i64.wrap ((im[n].length : Int) - w.data.length) = (im[n].length : Int) - w.data.length := wrap64 (by omega) (by omega)
   have hx0 : fitsE (sizesOf im) w = if w.data.length = 0 then 1 else if w.start < 0 ∨ w.start ≥ (im[n].length : Int) ∨ w.data.length > (im[n].length : Int) - w.start then 2 else 0 := by
     rw [fitsE, if_neg (by omega), hd]
   refine wpT_seq ?_
   refine wpT_region (by kernel_rfl) (fun K hK => ?_)
   simp only [↓SP, SZ, ↓reduceIte, reduceCtorEq, nE, nA, nL, nT, imgAV, Wr.av, hg9, hc5]
   refine hK _ _ ?_
   clear hK K
   refine wpT_if (by rfl) (fun hc16 => ?_) (fun hc16 => ?_)
   ·
    have p16 := hc16
    try simp only [PB] at p16
    refine wpT_seq ?_
    refine wpT_region (by kernel_rfl) (fun K hK => ?_)
    simp only [↓SP, SZ, ↓reduceIte, reduceCtorEq, nE, nA, nL, nT, imgAV, Wr.av, hg9, hc5, hc16]
    refine hK _ _ ?_
    clear hK K
    refine wpT_ret ⟨.inr rfl, ?_⟩
    show optK (resA _ _ _ [.tmp 4]) _
    simp only [SRO, ↓SP, SZ, ↓reduceIte, reduceCtorEq, nE, nA, nL, nT, imgAV, Wr.av, hg9, hc5, hc16]
    refine Lend.eq ?_
    first
      | rw [hx]
      | rw [hx0, if_pos (by omega)]
      | rw [hx0, if_neg (by omega), if_pos (by omega)]
      | rw [hx0, if_neg (by omega), if_neg (by omega)]
   ·
    have p16 := hc16
    try simp only [PB] at p16
    refine wpT_seq ?_
    refine wpT_drawn [] mixed (by kernel_rfl) (m := 19) rfl (fun K hK => ?_)
    simp only [↓SP, SZ, ↓reduceIte, reduceCtorEq, nE, nA, nL, nT, imgAV, Wr.av, hv, hg, hw1, hg9, hc5, hc16]
    refine guardD_split (fun hg25 => ?_) (fun hg25 => ?_)
    ·
     have p25 := hg25
     try simp only [PB] at p25
     simp only [↓SP, SZ, ↓reduceIte, reduceCtorEq, nE, nA, nL, nT, imgAV, Wr.av, hv, hg, hw1, hg9, hc5, hc16, hg25]
     refine hK _ _ ?_
     clear hK K
     refine wpT_if (by rfl) (fun hc21 => ?_) (fun hc21 => ?_)
     ·
      have p21 := hc21
      try simp only [PB] at p21
      refine wpT_seq ?_
      refine wpT_region (by kernel_rfl) (fun K hK => ?_)
      simp only [↓SP, SZ, ↓reduceIte, reduceCtorEq, nE, nA, nL, nT, imgAV, Wr.av, hg9, hc5, hc16, hg25, hc21]
      refine hK _ _ ?_
      clear hK K
      refine wpT_ret ⟨.inr rfl, ?_⟩
      show optK (resA _ _ _ [.tmp 4]) _
      simp only [SRO, ↓SP, SZ, ↓reduceIte, reduceCtorEq, nE, nA, nL, nT, imgAV, Wr.av, hg9, hc5, hc16, hg25, hc21]
      refine Lend.eq ?_
      first
        | rw [hx]
        | rw [hx0, if_pos (by omega)]
        | rw [hx0, if_neg (by omega), if_pos (by omega)]
        | rw [hx0, if_neg (by omega), if_neg (by omega)]
     ·
      have p21 := hc21
      try simp only [PB] at p21
      refine wpT_skip ?_
      refine wpT_inBlock ?_
      refine wpT_seq ?_
      refine wpT_region (by kernel_rfl) (fun K hK => ?_)
      simp only [↓SP, SZ, ↓reduceIte, reduceCtorEq, nE, nA, nL, nT, imgAV, Wr.av, hg9, hc5, hc16, hg25, hc21]
      refine hK _ _ ?_
      clear hK K
      refine wpT_ret ⟨.inr rfl, ?_⟩
      show optK (resA _ _ _ [.tmp 4]) _
      simp only [SRO, ↓SP, SZ, ↓reduceIte, reduceCtorEq, nE, nA, nL, nT, imgAV, Wr.av, hg9, hc5, hc16, hg25, hc21]
      refine Lend.eq ?_
      first
        | rw [hx]
        | rw [hx0, if_pos (by omega)]
        | rw [hx0, if_neg (by omega), if_pos (by omega)]
        | rw [hx0, if_neg (by omega), if_neg (by omega)]
    ·
     simp only [Bool.not_true, Bool.not_false] at hg25
     have p25 := hg25
     try simp only [PB] at p25
     simp only [↓SP, SZ, ↓reduceIte, reduceCtorEq, nE, nA, nL, nT, imgAV, Wr.av, hv, hg, hw1, hg9, hc5, hc16, hg25]
     refine hK _ _ ?_
     clear hK K
     refine wpT_ifT (by simp only [↓SP, SZ, ↓reduceIte, reduceCtorEq, nE, nA, nL, nT, imgAV, Wr.av, hg9, hc5, hc16, hg25]) ?_
     refine wpT_seq ?_
     refine wpT_region (by kernel_rfl) (fun K hK => ?_)
     simp only [↓SP, SZ, ↓reduceIte, reduceCtorEq, nE, nA, nL, nT, imgAV, Wr.av, hg9, hc5, hc16, hg25]
     refine hK _ _ ?_
     clear hK K
     refine wpT_ret ⟨.inr rfl, ?_⟩
     show optK (resA _ _ _ [.tmp 4]) _
     simp only [SRO, ↓SP, SZ, ↓reduceIte, reduceCtorEq, nE, nA, nL, nT, imgAV, Wr.av, hg9, hc5, hc16, hg25]
     refine Lend.eq ?_
     first
       | rw [hx]
       | rw [hx0, if_pos (by omega)]
       | rw [hx0, if_neg (by omega), if_pos (by omega)]
       | rw [hx0, if_neg (by omega), if_neg (by omega)]
 ·
  simp only [Bool.not_true, Bool.not_false] at hg9
  have p9 := hg9
  try simp only [PB] at p9
  simp only [↓SP, SZ, ↓reduceIte, reduceCtorEq, nE, nA, nL, nT, imgAV, Wr.av, hg9]
  refine hK _ _ ?_
  clear hK K
  refine wpT_ifT (by simp only [↓SP, SZ, ↓reduceIte, reduceCtorEq, nE, nA, nL, nT, imgAV, Wr.av, hg9]) ?_
  have hx : fitsE (sizesOf im) w = 7 := if_pos (by omega)
  refine wpT_seq ?_
  refine wpT_region (by kernel_rfl) (fun K hK => ?_)
  simp only [↓SP, SZ, ↓reduceIte, reduceCtorEq, nE, nA, nL, nT, imgAV, Wr.av, hg9]
  refine hK _ _ ?_
  clear hK K
  refine wpT_ret ⟨.inr rfl, ?_⟩
  show optK (resA _ _ _ [.tmp 4]) _
  simp only [SRO, ↓SP, SZ, ↓reduceIte, reduceCtorEq, nE, nA, nL, nT, imgAV, Wr.av, hg9]
  refine Lend.eq ?_
  first
    | rw [hx]
    | rw [hx0, if_pos (by omega)]
    | rw [hx0, if_neg (by omega), if_pos (by omega)]
    | rw [hx0, if_neg (by omega), if_neg (by omega)]
def fitsI (im : List (List Sec)) (w : Wr) : Int := if sizesE (sizesOf im) ≠ 0 then sizesE (sizesOf im) else fitsE (sizesOf im) w
theorem c45 (im : List (List Sec)) (w : Wr) (hl : im.length ≤ 4096000) (hm : ∀ l ∈ im, l.length < 4611686018427387904) (hw : w.data.length < 4611686018427387904) : Pu Try.prog (.fn (.func 45) [] []) [imgAV im, w.av] (I (fitsI im w)) := by
 refine pu_func Try.func45 rfl (by kernel_rfl) (by show _ ≤ 14; simp only [List.length_append, List.length_cons, List.length_nil]; decide) (by simp only [IDF, implies_true]) (by simp only [IDF, and_tt, implies_true]) (by simp only [IDF, img_idf, wr_idf, and_tt, implies_true]) ?_
 rw [Try.ntmps45]
 refine wpT_seq ?_
 refine wpT_region (by kernel_rfl) (fun K hK => ?_)
 simp only [↓SP, SZ, ↓reduceIte, reduceCtorEq, nE, nA, nL, nT, wr_okc]
 refine hK _ _ ?_
 clear hK K
 refine wpT_seq ?_
 refine wpT_seq ?_
 refine wpT_region (by kernel_rfl) (fun K hK => ?_)
 simp only [↓SP, SZ, ↓reduceIte, reduceCtorEq, nE, nA, nL, nT]
 refine Pu.call (c71 im hl) ?_
 simp only [↓SP, SZ, ↓reduceIte, reduceCtorEq, nE, nA, nL, nT]
 refine hK _ _ ?_
 clear hK K
 refine wpT_seq ?_
 refine wpT_region (by kernel_rfl) (fun K hK => ?_)
 simp only [↓SP, SZ, ↓reduceIte, reduceCtorEq, nE, nA, nL, nT]
 refine hK _ _ ?_
 clear hK K
 refine wpT_if (by rfl) (fun hc9 => ?_) (fun hc9 => ?_)
 ·
  have p9 := hc9
  try simp only [PB] at p9
  have hx : fitsI im w = sizesE (sizesOf im) := if_pos p9
  refine wpT_seq ?_
  refine wpT_region (by kernel_rfl) (fun K hK => ?_)
  simp only [↓SP, SZ, ↓reduceIte, reduceCtorEq, nE, nA, nL, nT, hc9]
  refine hK _ _ ?_
  clear hK K
  refine wpT_ret ⟨.inr rfl, ?_⟩
  show optK (resA _ _ _ [.tmp 4]) _
  simp only [SRO, ↓SP, SZ, ↓reduceIte, reduceCtorEq, nE, nA, nL, nT, hc9]
  refine Lend.eq ?_
  rw [hx]
 ·
  have p9 := hc9
  try simp only [PB] at p9
  have hx : fitsI im w = fitsE (sizesOf im) w := if_neg (by omega)
  refine wpT_skip ?_
  refine wpT_seq ?_
  refine wpT_region (by kernel_rfl) (fun K hK => ?_)
  simp only [↓SP, SZ, ↓reduceIte, reduceCtorEq, nE, nA, nL, nT, wr_ld, hc9]
  refine Pu.call (c89 im w (by omega) hm hw) ?_
  simp only [↓SP, SZ, ↓reduceIte, reduceCtorEq, nE, nA, nL, nT, wr_ld, hc9]
  refine hK _ _ ?_
  clear hK K
  refine wpT_ret ⟨.inr rfl, ?_⟩
  show optK (resA _ _ _ [.tmp 4]) _
  simp only [SRO, ↓SP, SZ, ↓reduceIte, reduceCtorEq, nE, nA, nL, nT, hc9]
  refine Lend.eq ?_
  rw [hx]
theorem sizes_new {sz : List Int} (h : sizesE sz = 0) : sizesOf (newImg sz) = sz := by
  have hz := sizesE_le h
  unfold newImg sizesOf
  rw [if_neg (by omega), List.map_map]
  conv => rhs; rw [← List.map_id sz]
  refine List.map_congr_left fun x hx => ?_
  have := hz x hx
  simp [zeros]
  omega
theorem new_lens {sz : List Int} (h : sizesE sz = 0) : (newImg sz).length ≤ 8 ∧ ∀ l ∈ newImg sz, l.length < 4611686018427387904 := by
  have hz := sizesE_le h
  have h8 : sz.length ≤ 8 := by
    unfold sizesE at h
    split at h
    · simp at h
    · omega
  unfold newImg
  rw [if_neg (by omega)]
  refine ⟨by simpa using h8, fun l hl => ?_⟩
  obtain ⟨x, hx, rfl⟩ := List.mem_map.1 hl
  have := hz x hx
  simp [zeros]
  omega
theorem fits_new {sz : List Int} (h : sizesE sz = 0) (w : Wr) : fitsI (newImg sz) w = fitsE sz w := by
  unfold fitsI
  rw [sizes_new h, if_neg (by omega)]
end Go.Proofs.Ytfdfkmcplhloaaa
end

section
set_option linter.unusedSimpArgs false
set_option linter.unusedVariables false
namespace Go.Proofs.Ytfdfkmcplhloaaa
open Go.Proofs
open Nat renaming reduceEqDiff → nE, reduceAdd → nA, reduceLeDiff → nL, reduceLT → nT
def fitsAll (sz : List Int) : List Wr → Int
  | [] => 0
  | w :: ws => if fitsE sz w ≠ 0 then fitsE sz w else fitsAll sz ws
/-- The places of the events of each write, -1 for an acknowledgement that is missing. -/
structure TL where
  (iss ack : List Int)
def evE (n : Nat) (t : TL) (x : Evn) : Int :=
  if x.kind = 0 then (if x.wr ≠ t.iss.length ∨ x.wr ≥ n then 3 else 0)
  else if x.kind = 1 then (if x.wr < 0 ∨ x.wr ≥ t.iss.length then 7 else if t.ack.getD x.wr.toNat 0 ≥ 0 then 8 else 0)
  else 3
def evS (k : Nat) (t : TL) (x : Evn) : TL := if x.kind = 0 then ⟨t.iss ++ [(k : Int)], t.ack ++ [-1]⟩ else ⟨t.iss, t.ack.set x.wr.toNat k⟩
def evRun (n : Nat) : Nat → TL → List Evn → Int × TL
  | _, t, [] => (0, t)
  | k, t, x :: xs => if evE n t x ≠ 0 then (evE n t x, t) else evRun n (k + 1) (evS k t x) xs
def histRun (h : Hist) : Int × TL := evRun h.ws.length 0 ⟨[], []⟩ h.evs
def histE (h : Hist) : Int :=
  if sizesE h.sizes ≠ 0 then sizesE h.sizes else if h.ws.length > 4096 then 6 else if fitsAll h.sizes h.ws ≠ 0 then fitsAll h.sizes h.ws else
  if (histRun h).1 ≠ 0 then (histRun h).1 else if (histRun h).2.iss.length < h.ws.length then 3 else 0
/-- What holds of a timeline behind k events. -/
structure TL.good (n k : Nat) (t : TL) : Prop where
  len : t.ack.length = t.iss.length
  le : t.iss.length ≤ n
  iss : ∀ x ∈ t.iss, 0 ≤ x ∧ x < k
  ack : ∀ x ∈ t.ack, -1 ≤ x ∧ x < k
theorem evS_good {n k : Nat} {t : TL} {x : Evn} (h : t.good n k) (he : evE n t x = 0) : (evS k t x).good n (k + 1) := by
  unfold evS
  unfold evE at he
  by_cases h0 : x.kind = 0
  · rw [if_pos h0] at he ⊢
    have hn : x.wr = t.iss.length ∧ x.wr < n := by
      split at he
      · simp at he
      · omega
    refine ⟨by simp [h.len], by simp; omega, fun y hy => ?_, fun y hy => ?_⟩
    · rcases List.mem_append.1 hy with hy | hy
      · have := h.iss y hy; omega
      · simp at hy; omega
    · rcases List.mem_append.1 hy with hy | hy
      · have := h.ack y hy; omega
      · simp at hy; omega
  · rw [if_neg h0] at he ⊢
    refine ⟨by simp [h.len], h.le, fun y hy => ?_, fun y hy => ?_⟩
    · have := h.iss y hy; omega
    · rcases List.mem_or_eq_of_mem_set hy with hy | rfl
      · have := h.ack y hy; omega
      · omega
theorem evRun_good {n : Nat} : ∀ {xs : List Evn} {k : Nat} {t : TL}, t.good n k → ∃ k', k' ≤ k + xs.length ∧ (evRun n k t xs).2.good n k'
  | [], k, t, h => ⟨k, by simp, h⟩
  | x :: xs, k, t, h => by
    rw [evRun]
    split
    · exact ⟨k, by omega, h⟩
    · rename_i he
      obtain ⟨k', h1, h2⟩ := evRun_good (xs := xs) (evS_good h (Classical.not_not.1 he))
      exact ⟨k', by simp only [List.length_cons]; omega, h2⟩
theorem tl0_good (n : Nat) : TL.good n 0 ⟨[], []⟩ := ⟨rfl, by simp, by simp, by simp⟩
/-- What a history without an error has. -/
theorem hist_ok {h : Hist} (hE : histE h = 0) : sizesE h.sizes = 0 ∧ h.ws.length ≤ 4096 ∧ fitsAll h.sizes h.ws = 0 ∧ (histRun h).1 = 0 ∧ (histRun h).2.iss.length = h.ws.length ∧ (histRun h).2.ack.length = h.ws.length ∧
    (∀ x ∈ (histRun h).2.iss, 0 ≤ x ∧ x < h.evs.length) ∧ ∀ x ∈ (histRun h).2.ack, -1 ≤ x ∧ x < h.evs.length := by
  unfold histE at hE
  by_cases h1 : sizesE h.sizes = 0
  · rw [if_neg (by omega)] at hE
    by_cases h2 : h.ws.length > 4096
    · rw [if_pos h2] at hE; omega
    · rw [if_neg h2] at hE
      by_cases h3 : fitsAll h.sizes h.ws = 0
      · rw [if_neg (by omega)] at hE
        by_cases h4 : (histRun h).1 = 0
        · rw [if_neg (by omega)] at hE
          by_cases h5 : (histRun h).2.iss.length < h.ws.length
          · rw [if_pos h5] at hE; omega
          · obtain ⟨k', h6, h7⟩ := evRun_good (xs := h.evs) (tl0_good h.ws.length)
            have h8 : (histRun h).2.good h.ws.length k' := h7
            have h9 := h8.le
            refine ⟨h1, by omega, h3, h4, by omega, by rw [h8.len]; omega, fun x hx => ?_, fun x hx => ?_⟩
            · have := h8.iss x hx; omega
            · have := h8.ack x hx; omega
        · rw [if_pos h4] at hE; omega
      · rw [if_pos h3] at hE; omega
  · rw [if_pos h1] at hE; omega
theorem fitsAll_mem {sz : List Int} : ∀ {ws : List Wr}, fitsAll sz ws = 0 → ∀ w ∈ ws, fitsE sz w = 0
  | [], _ => by simp
  | w :: ws, h => by
    rw [fitsAll] at h
    split at h
    · omega
    · intro y hy
      rcases List.mem_cons.1 hy with rfl | hy
      · omega
      · exact fitsAll_mem h y hy
/-- Whether write a is before write b. -/
def befT (t : TL) (a b : Nat) : Bool := decide (t.ack.getD a 0 ≥ 0) && decide (t.ack.getD a 0 < t.iss.getD b 0)
/-- Whether a list is a set of numbers below n, all above p. -/
def setP (n : Nat) : Int → List Int → Bool
  | _, [] => true
  | p, x :: xs => if x < 0 ∨ x ≥ n ∨ x ≤ p then false else setP n x xs
/-- The numbers below n with a property. -/
def selN (p : Nat → Bool) : Nat → List Int
  | 0 => []
  | n + 1 => selN p n ++ if p n = true then [(n : Int)] else []
/-- The numbers, from i on, of the places at which a list is true. -/
def memF : Nat → List Bool → List Int
  | _, [] => []
  | i, b :: bs => if b = true then (i : Int) :: memF (i + 1) bs else memF (i + 1) bs
theorem memF_append : ∀ (i : Nat) (xs ys : List Bool), memF i (xs ++ ys) = memF i xs ++ memF (i + xs.length) ys
  | i, [], ys => rfl
  | i, x :: xs, ys => by
    rw [List.cons_append, memF, memF, memF_append (i + 1) xs ys, List.length_cons, show i + (xs.length + 1) = i + 1 + xs.length by omega]
    split <;> simp
theorem memF_sel (ms : List Bool) : ∀ k, k ≤ ms.length → memF 0 (ms.take k) = selN (fun i => ms.getD i false) k
  | 0, _ => by simp [memF, selN]
  | k + 1, h => by
    have hlt : k < ms.length := by omega
    rw [List.take_add_one, List.getElem?_eq_getElem hlt, memF_append, memF_sel ms k (by omega), selN]
    simp only [Option.toList_some, memF, List.length_take, Nat.zero_add, Nat.min_eq_left (Nat.le_of_lt hlt)]
    have e : ms.getD k false = ms[k] := by simp [hlt]
    rw [e]
theorem memF_eq (ms : List Bool) : memF 0 ms = selN (fun i => ms.getD i false) ms.length := by
  have := memF_sel ms ms.length (Nat.le_refl _)
  rwa [List.take_length] at this
theorem mem_memF : ∀ {ms : List Bool} {i : Nat} {x : Int}, x ∈ memF i ms ↔ ∃ k : Nat, x = ((i + k : Nat) : Int) ∧ ms[k]? = some true
  | [], i, x => by simp [memF]
  | b :: ms, i, x => by
    rw [memF]
    have ih := mem_memF (ms := ms) (i := i + 1) (x := x)
    constructor
    · intro h
      split at h
      · rename_i hb
        rcases List.mem_cons.1 h with rfl | h
        · exact ⟨0, by simp, by simp [hb]⟩
        · obtain ⟨k, h1, h2⟩ := ih.1 h
          exact ⟨k + 1, by rw [h1]; congr 1; omega, by simpa using h2⟩
      · obtain ⟨k, h1, h2⟩ := ih.1 h
        exact ⟨k + 1, by rw [h1]; congr 1; omega, by simpa using h2⟩
    · rintro ⟨k, h1, h2⟩
      cases k with
      | zero =>
        simp at h2
        rw [if_pos h2]
        simp at h1
        rw [h1]; simp
      | succ k =>
        have : x ∈ memF (i + 1) ms := ih.2 ⟨k, by rw [h1]; congr 1; omega, by simpa using h2⟩
        split
        · exact List.mem_cons_of_mem _ this
        · exact this
theorem mem_selN {p : Nat → Bool} : ∀ {n : Nat} {x : Int}, x ∈ selN p n ↔ ∃ k : Nat, x = k ∧ k < n ∧ p k = true
  | 0, x => by simp [selN]
  | n + 1, x => by
    rw [selN, List.mem_append, mem_selN]
    constructor
    · rintro (⟨k, h1, h2, h3⟩ | h)
      · exact ⟨k, h1, by omega, h3⟩
      · split at h
        · rename_i hp
          simp at h
          exact ⟨n, h, by omega, hp⟩
        · simp at h
    · rintro ⟨k, h1, h2, h3⟩
      by_cases hk : k = n
      · subst hk
        right
        rw [if_pos h3]
        simp [h1]
      · exact .inl ⟨k, h1, by omega, h3⟩
theorem selN_congr {p q : Nat → Bool} : ∀ {n : Nat}, (∀ k, k < n → p k = q k) → selN p n = selN q n
  | 0, _ => rfl
  | n + 1, h => by rw [selN, selN, selN_congr fun k hk => h k (by omega), h n (by omega)]
theorem selN_length (p : Nat → Bool) : ∀ n, (selN p n).length ≤ n
  | 0 => by simp [selN]
  | n + 1 => by
    have := selN_length p n
    rw [selN, List.length_append]
    split <;> simp <;> omega
/-- The marks of a list. -/
def markL (n : Nat) (l : List Int) : List Bool := (List.range n).map fun i : Nat => decide ((i : Int) ∈ l)
theorem markL_length (n : Nat) (l : List Int) : (markL n l).length = n := by simp [markL]
theorem markL_at {n : Nat} {l : List Int} {i : Nat} (h : i < n) : (markL n l)[i]? = some (decide ((i : Int) ∈ l)) := by simp [markL, h]
theorem markL_getD {n : Nat} {l : List Int} {i : Nat} (h : i < n) : (markL n l).getD i false = decide ((i : Int) ∈ l) := by rw [List.getD_eq_getElem?_getD, markL_at h]; rfl
theorem setP_mem {n : Nat} : ∀ {p : Int} {l : List Int}, setP n p l = true → ∀ x ∈ l, 0 ≤ x ∧ x < n ∧ p < x
  | _, [], _ => by simp
  | p, x :: xs, h => by
    rw [setP] at h
    split at h
    · simp at h
    · intro y hy
      rcases List.mem_cons.1 hy with rfl | hy
      · omega
      · have := setP_mem h y hy
        omega
/-- A sorted list with the members that another one has is that one. -/
theorem setP_ext {n : Nat} : ∀ {p q : Int} {l m : List Int}, setP n p l = true → setP n q m = true → (∀ x, x ∈ l ↔ x ∈ m) → l = m
  | _, _, [], [], _, _, _ => rfl
  | _, _, [], y :: ys, _, _, h => by have := (h y).2 (by simp); simp at this
  | _, _, x :: xs, [], _, _, h => by have := (h x).1 (by simp); simp at this
  | p, q, x :: xs, y :: ys, h1, h2, h => by
    rw [setP] at h1 h2
    split at h1
    · simp at h1
    · split at h2
      · simp at h2
      · have a1 := setP_mem h1
        have a2 := setP_mem h2
        have e : x = y := by
          rcases List.mem_cons.1 ((h x).1 (by simp)) with e | e
          · exact e
          · rcases List.mem_cons.1 ((h y).2 (by simp)) with e' | e'
            · exact e'.symm
            · have := a2 x e; have := a1 y e'; omega
        subst e
        rw [setP_ext h1 h2 fun z => ?_]
        constructor
        · intro hz
          rcases List.mem_cons.1 ((h z).1 (by simp [hz])) with e | e
          · have := a1 z hz; omega
          · exact e
        · intro hz
          rcases List.mem_cons.1 ((h z).2 (by simp [hz])) with e | e
          · have := a2 z hz; omega
          · exact e
theorem setP_snoc {n : Nat} {y : Int} : ∀ {p : Int} {l : List Int}, setP n p l = true → (∀ x ∈ l, x < y) → p < y → 0 ≤ y → y < n → setP n p (l ++ [y]) = true
  | p, [], _, _, h1, h2, h3 => by simp only [List.nil_append, setP]; rw [if_neg (by omega)]
  | p, x :: xs, h, hl, _, h2, h3 => by
    rw [setP] at h
    split at h
    · simp at h
    · rw [List.cons_append, setP, if_neg (by omega)]
      exact setP_snoc h (fun z hz => hl z (by simp [hz])) (hl x (by simp)) h2 h3
theorem setP_sel {p : Nat → Bool} {m : Nat} : ∀ {n : Nat}, n ≤ m → setP m (-1) (selN p n) = true
  | 0, _ => rfl
  | n + 1, h => by
    rw [selN]
    have ih := setP_sel (p := p) (m := m) (n := n) (by omega)
    split
    · refine setP_snoc ih (fun x hx => ?_) (by omega) (by omega) (by omega)
      obtain ⟨k, rfl, h2, _⟩ := mem_selN.1 hx
      omega
    · simpa using ih
theorem memF_mark {n : Nat} {l : List Int} (h : setP n (-1) l = true) : memF 0 (markL n l) = l := by
  rw [memF_eq, markL_length]
  refine setP_ext (setP_sel (Nat.le_refl n)) h fun x => ?_
  rw [mem_selN]
  constructor
  · rintro ⟨k, rfl, h2, h3⟩
    rw [markL_getD h2] at h3
    simpa using h3
  · intro hx
    obtain ⟨a, b, _⟩ := setP_mem h x hx
    refine ⟨x.toNat, by omega, by omega, ?_⟩
    rw [markL_getD (by omega)]
    simp [Int.toNat_of_nonneg a, hx]
def leastR (t : TL) (n : Nat) (l : List Int) : List Int := selN (fun a => decide ((a : Int) ∈ l) || l.any fun b => befT t a b.toNat) n
def greatR (t : TL) (n : Nat) (l : List Int) : List Int := selN (fun b => decide ((b : Int) ∈ l) && (List.range n).all fun a => decide ((a : Int) ∈ l) || !befT t a b) n
def Hist.sm (h : Hist) : Prop := h.sizes.length < 4000000 ∧ h.ws.length < 4000000 ∧ h.evs.length < 4000000 ∧ ∀ w ∈ h.ws, w.data.length < 4000000
theorem Hist.sm.ok {h : Hist} (s : h.sm) : h.ok := ⟨by have := s.1; omega, by have := s.2.1; omega, by have := s.2.2.1; omega, fun w hw => by have := s.2.2.2 w hw; unfold Wr.ok; omega⟩
end Go.Proofs.Ytfdfkmcplhloaaa
end
