/- Proved here, as a part of the claim: how the code of the program walks (CwT, CwLay). -/
import Derived.Test.YtbnjfehippbbfaaGreatDoorProg
import Derived.Test.YtbnjfehippbbfaaGreatDoorGa
import Derived.KernelRfl
import Derived.Ground.NamesProg
import Derived.Ground.SlsfProg
import Derived.Shelf.Strings.Split
import Derived.Shelf.Small.Strs
import Derived.Shelf.Sort.Plain
import Derived.Shelf.SlSortCmp.WholeK
import Derived.Shelf.SlSortCmp.Whole1
namespace Go.Cw.Tryz
open Go.Proofs

instance tyI2 : TyI Tryz.prog 2 false 1 := TyI.of (by kernel_rfl) (by kernel_rfl)
instance inT2 : IntT Tryz.prog 2 .i64 := ⟨by kernel_rfl⟩
instance tyI3 : TyI Tryz.prog 3 false 1 := TyI.of (by kernel_rfl) (by kernel_rfl)
instance inT3 : IntT Tryz.prog 3 .i64 := ⟨by kernel_rfl⟩
instance tyI4 : TyI Tryz.prog 4 false 1 := TyI.of (by kernel_rfl) (by kernel_rfl)
instance boT4 : BoolT Tryz.prog 4 := ⟨by kernel_rfl⟩
instance tyI5 : TyI Tryz.prog 5 false 1 := TyI.of (by kernel_rfl) (by kernel_rfl)
instance inT5 : IntT Tryz.prog 5 .u8 := ⟨by kernel_rfl⟩
instance tyI6 : TyI Tryz.prog 6 false 1 := TyI.of (by kernel_rfl) (by kernel_rfl)
instance inT6 : IntT Tryz.prog 6 .u8 := ⟨by kernel_rfl⟩
instance tyI7 : TyI Tryz.prog 7 true 4 := TyI.of (by kernel_rfl) (by kernel_rfl)
instance tyI9 : TyI Tryz.prog 9 false 1 := TyI.of (by kernel_rfl) (by kernel_rfl)
instance stT9 : StrT Tryz.prog 9 := ⟨by kernel_rfl⟩
instance tyI22 : TyI Tryz.prog 22 false 1 := TyI.of (by kernel_rfl) (by kernel_rfl)
instance slT22 : SlT Tryz.prog 22 55 := ⟨by kernel_rfl⟩
instance tyI24 : TyI Tryz.prog 24 false 1 := TyI.of (by kernel_rfl) (by kernel_rfl)
instance ptT24 : PtrT Tryz.prog 24 := ⟨by kernel_rfl⟩
instance tyI25 : TyI Tryz.prog 25 false 1 := TyI.of (by kernel_rfl) (by kernel_rfl)
instance ptT25 : PtrT Tryz.prog 25 := ⟨by kernel_rfl⟩
instance tyI28 : TyI Tryz.prog 28 false 1 := TyI.of (by kernel_rfl) (by kernel_rfl)
instance slT28 : SlT Tryz.prog 28 30 := ⟨by kernel_rfl⟩
instance tyI30 : TyI Tryz.prog 30 false 1 := TyI.of (by kernel_rfl) (by kernel_rfl)
instance slT30 : SlT Tryz.prog 30 44 := ⟨by kernel_rfl⟩
instance tyI39 : TyI Tryz.prog 39 false 1 := TyI.of (by kernel_rfl) (by kernel_rfl)
instance slT39 : SlT Tryz.prog 39 74 := ⟨by kernel_rfl⟩
instance tyI41 : TyI Tryz.prog 41 true 2 := TyI.of (by kernel_rfl) (by kernel_rfl)
instance tyI44 : TyI Tryz.prog 44 true 2 := TyI.of (by kernel_rfl) (by kernel_rfl)
instance tyI46 : TyI Tryz.prog 46 false 1 := TyI.of (by kernel_rfl) (by kernel_rfl)
instance slT46 : SlT Tryz.prog 46 5 := ⟨by kernel_rfl⟩
instance tyI55 : TyI Tryz.prog 55 true 5 := TyI.of (by kernel_rfl) (by kernel_rfl)
instance tyI57 : TyI Tryz.prog 57 false 1 := TyI.of (by kernel_rfl) (by kernel_rfl)
instance ptT57 : PtrT Tryz.prog 57 := ⟨by kernel_rfl⟩
instance tyI59 : TyI Tryz.prog 59 false 1 := TyI.of (by kernel_rfl) (by kernel_rfl)
instance slT59 : SlT Tryz.prog 59 60 := ⟨by kernel_rfl⟩
instance tyI60 : TyI Tryz.prog 60 false 1 := TyI.of (by kernel_rfl) (by kernel_rfl)
instance slT60 : SlT Tryz.prog 60 3 := ⟨by kernel_rfl⟩
instance tyI62 : TyI Tryz.prog 62 true 8 := TyI.of (by kernel_rfl) (by kernel_rfl)
instance tyI64 : TyI Tryz.prog 64 false 1 := TyI.of (by kernel_rfl) (by kernel_rfl)
instance tyI68 : TyI Tryz.prog 68 false 1 := TyI.of (by kernel_rfl) (by kernel_rfl)
instance tyI70 : TyI Tryz.prog 70 true 1 := TyI.of (by kernel_rfl) (by kernel_rfl)
instance tyI74 : TyI Tryz.prog 74 true 4 := TyI.of (by kernel_rfl) (by kernel_rfl)
instance tyI80 : TyI Tryz.prog 80 true 2 := TyI.of (by kernel_rfl) (by kernel_rfl)
instance tyI81 : TyI Tryz.prog 81 false 1 := TyI.of (by kernel_rfl) (by kernel_rfl)
instance slT81 : SlT Tryz.prog 81 80 := ⟨by kernel_rfl⟩
instance tyI82 : TyI Tryz.prog 82 false 1 := TyI.of (by kernel_rfl) (by kernel_rfl)
instance ptT82 : PtrT Tryz.prog 82 := ⟨by kernel_rfl⟩
instance tyI85 : TyI Tryz.prog 85 false 1 := TyI.of (by kernel_rfl) (by kernel_rfl)
instance inT85 : IntT Tryz.prog 85 .u64 := ⟨by kernel_rfl⟩
instance tyI109 : TyI Tryz.prog 109 false 1 := TyI.of (by kernel_rfl) (by kernel_rfl)
instance slT109 : SlT Tryz.prog 109 9 := ⟨by kernel_rfl⟩
instance fld7x0 : Fld Tryz.prog 7 0 0 := Fld.of (by kernel_rfl)
instance fld7x1 : Fld Tryz.prog 7 1 1 := Fld.of (by kernel_rfl)
instance fld7x2 : Fld Tryz.prog 7 2 2 := Fld.of (by kernel_rfl)
instance fld7x3 : Fld Tryz.prog 7 3 3 := Fld.of (by kernel_rfl)
instance fld41x0 : Fld Tryz.prog 41 0 0 := Fld.of (by kernel_rfl)
instance fld41x1 : Fld Tryz.prog 41 1 1 := Fld.of (by kernel_rfl)
instance fld44x0 : Fld Tryz.prog 44 0 0 := Fld.of (by kernel_rfl)
instance fld44x1 : Fld Tryz.prog 44 1 1 := Fld.of (by kernel_rfl)
instance fld55x0 : Fld Tryz.prog 55 0 0 := Fld.of (by kernel_rfl)
instance fld55x1 : Fld Tryz.prog 55 1 2 := Fld.of (by kernel_rfl)
instance fld55x2 : Fld Tryz.prog 55 2 4 := Fld.of (by kernel_rfl)
instance fld62x0 : Fld Tryz.prog 62 0 0 := Fld.of (by kernel_rfl)
instance fld62x1 : Fld Tryz.prog 62 1 1 := Fld.of (by kernel_rfl)
instance fld62x2 : Fld Tryz.prog 62 2 2 := Fld.of (by kernel_rfl)
instance fld62x3 : Fld Tryz.prog 62 3 3 := Fld.of (by kernel_rfl)
instance fld62x4 : Fld Tryz.prog 62 4 4 := Fld.of (by kernel_rfl)
instance fld62x5 : Fld Tryz.prog 62 5 5 := Fld.of (by kernel_rfl)
instance fld62x6 : Fld Tryz.prog 62 6 6 := Fld.of (by kernel_rfl)
instance fld62x7 : Fld Tryz.prog 62 7 7 := Fld.of (by kernel_rfl)
instance fld70x0 : Fld Tryz.prog 70 0 0 := Fld.of (by kernel_rfl)
instance fld74x0 : Fld Tryz.prog 74 0 0 := Fld.of (by kernel_rfl)
instance fld74x1 : Fld Tryz.prog 74 1 2 := Fld.of (by kernel_rfl)
instance fld80x0 : Fld Tryz.prog 80 0 0 := Fld.of (by kernel_rfl)
instance fld80x1 : Fld Tryz.prog 80 1 1 := Fld.of (by kernel_rfl)
theorem nm3 : (Tryz.f3.name == "runtime.NumGoroutine") = false := by kernel_rfl
theorem bd3 : Tryz.f3.body.isNone = false := by kernel_rfl
theorem nm4 : (Tryz.f4.name == "runtime.NumGoroutine") = false := by kernel_rfl
theorem bd4 : Tryz.f4.body.isNone = false := by kernel_rfl
theorem nm5 : (Tryz.f5.name == "runtime.NumGoroutine") = false := by kernel_rfl
theorem bd5 : Tryz.f5.body.isNone = false := by kernel_rfl
theorem nm6 : (Tryz.f6.name == "runtime.NumGoroutine") = false := by kernel_rfl
theorem bd6 : Tryz.f6.body.isNone = false := by kernel_rfl
theorem nm7 : (Tryz.f7.name == "runtime.NumGoroutine") = false := by kernel_rfl
theorem bd7 : Tryz.f7.body.isNone = false := by kernel_rfl
theorem nm8 : (Tryz.f8.name == "runtime.NumGoroutine") = false := by kernel_rfl
theorem bd8 : Tryz.f8.body.isNone = false := by kernel_rfl
theorem nm9 : (Tryz.f9.name == "runtime.NumGoroutine") = false := by kernel_rfl
theorem bd9 : Tryz.f9.body.isNone = false := by kernel_rfl
theorem nm10 : (Tryz.f10.name == "runtime.NumGoroutine") = false := by kernel_rfl
theorem bd10 : Tryz.f10.body.isNone = false := by kernel_rfl
theorem nm11 : (Tryz.f11.name == "runtime.NumGoroutine") = false := by kernel_rfl
theorem bd11 : Tryz.f11.body.isNone = false := by kernel_rfl
theorem nm12 : (Tryz.f12.name == "runtime.NumGoroutine") = false := by kernel_rfl
theorem bd12 : Tryz.f12.body.isNone = false := by kernel_rfl
theorem nm13 : (Tryz.f13.name == "runtime.NumGoroutine") = false := by kernel_rfl
theorem bd13 : Tryz.f13.body.isNone = false := by kernel_rfl
theorem nm14 : (Tryz.f14.name == "runtime.NumGoroutine") = false := by kernel_rfl
theorem bd14 : Tryz.f14.body.isNone = false := by kernel_rfl
theorem nm15 : (Tryz.f15.name == "runtime.NumGoroutine") = false := by kernel_rfl
theorem bd15 : Tryz.f15.body.isNone = false := by kernel_rfl
theorem nm16 : (Tryz.f16.name == "runtime.NumGoroutine") = false := by kernel_rfl
theorem bd16 : Tryz.f16.body.isNone = false := by kernel_rfl
theorem nm17 : (Tryz.f17.name == "runtime.NumGoroutine") = false := by kernel_rfl
theorem bd17 : Tryz.f17.body.isNone = false := by kernel_rfl
theorem nm18 : (Tryz.f18.name == "runtime.NumGoroutine") = false := by kernel_rfl
theorem bd18 : Tryz.f18.body.isNone = false := by kernel_rfl
theorem nm19 : (Tryz.f19.name == "runtime.NumGoroutine") = false := by kernel_rfl
theorem bd19 : Tryz.f19.body.isNone = false := by kernel_rfl
theorem nm20 : (Tryz.f20.name == "runtime.NumGoroutine") = false := by kernel_rfl
theorem bd20 : Tryz.f20.body.isNone = false := by kernel_rfl
theorem nm21 : (Tryz.f21.name == "runtime.NumGoroutine") = false := by kernel_rfl
theorem bd21 : Tryz.f21.body.isNone = false := by kernel_rfl
theorem nm22 : (Tryz.f22.name == "runtime.NumGoroutine") = false := by kernel_rfl
theorem bd22 : Tryz.f22.body.isNone = false := by kernel_rfl
theorem nm23 : (Tryz.f23.name == "runtime.NumGoroutine") = false := by kernel_rfl
theorem bd23 : Tryz.f23.body.isNone = false := by kernel_rfl
theorem nm24 : (Tryz.f24.name == "runtime.NumGoroutine") = false := by kernel_rfl
theorem bd24 : Tryz.f24.body.isNone = false := by kernel_rfl
theorem nm25 : (Tryz.f25.name == "runtime.NumGoroutine") = false := by kernel_rfl
theorem bd25 : Tryz.f25.body.isNone = false := by kernel_rfl
theorem nm26 : (Tryz.f26.name == "runtime.NumGoroutine") = false := by kernel_rfl
theorem bd26 : Tryz.f26.body.isNone = false := by kernel_rfl
theorem nm27 : (Tryz.f27.name == "runtime.NumGoroutine") = false := by kernel_rfl
theorem bd27 : Tryz.f27.body.isNone = false := by kernel_rfl
theorem nm28 : (Tryz.f28.name == "runtime.NumGoroutine") = false := by kernel_rfl
theorem bd28 : Tryz.f28.body.isNone = false := by kernel_rfl
theorem nm29 : (Tryz.f29.name == "runtime.NumGoroutine") = false := by kernel_rfl
theorem bd29 : Tryz.f29.body.isNone = false := by kernel_rfl
theorem nm30 : (Tryz.f30.name == "runtime.NumGoroutine") = false := by kernel_rfl
theorem bd30 : Tryz.f30.body.isNone = false := by kernel_rfl
theorem nm31 : (Tryz.f31.name == "runtime.NumGoroutine") = false := by kernel_rfl
theorem bd31 : Tryz.f31.body.isNone = false := by kernel_rfl
theorem nm32 : (Tryz.f32.name == "runtime.NumGoroutine") = false := by kernel_rfl
theorem bd32 : Tryz.f32.body.isNone = false := by kernel_rfl
theorem nm33 : (Tryz.f33.name == "runtime.NumGoroutine") = false := by kernel_rfl
theorem bd33 : Tryz.f33.body.isNone = false := by kernel_rfl
theorem nm34 : (Tryz.f34.name == "runtime.NumGoroutine") = false := by kernel_rfl
theorem bd34 : Tryz.f34.body.isNone = false := by kernel_rfl
theorem nm35 : (Tryz.f35.name == "runtime.NumGoroutine") = false := by kernel_rfl
theorem bd35 : Tryz.f35.body.isNone = false := by kernel_rfl
theorem nm36 : (Tryz.f36.name == "runtime.NumGoroutine") = false := by kernel_rfl
theorem bd36 : Tryz.f36.body.isNone = false := by kernel_rfl
theorem nm37 : (Tryz.f37.name == "runtime.NumGoroutine") = false := by kernel_rfl
theorem bd37 : Tryz.f37.body.isNone = false := by kernel_rfl
theorem nm38 : (Tryz.f38.name == "runtime.NumGoroutine") = false := by kernel_rfl
theorem bd38 : Tryz.f38.body.isNone = false := by kernel_rfl
theorem nm39 : (Tryz.f39.name == "runtime.NumGoroutine") = false := by kernel_rfl
theorem bd39 : Tryz.f39.body.isNone = false := by kernel_rfl
theorem nm40 : (Tryz.f40.name == "runtime.NumGoroutine") = false := by kernel_rfl
theorem bd40 : Tryz.f40.body.isNone = false := by kernel_rfl
theorem nm41 : (Tryz.f41.name == "runtime.NumGoroutine") = false := by kernel_rfl
theorem bd41 : Tryz.f41.body.isNone = false := by kernel_rfl
theorem nm42 : (Tryz.f42.name == "runtime.NumGoroutine") = false := by kernel_rfl
theorem bd42 : Tryz.f42.body.isNone = false := by kernel_rfl
theorem nm43 : (Tryz.f43.name == "runtime.NumGoroutine") = false := by kernel_rfl
theorem bd43 : Tryz.f43.body.isNone = false := by kernel_rfl
theorem nm46 : (Tryz.f46.name == "runtime.NumGoroutine") = false := by kernel_rfl
theorem bd46 : Tryz.f46.body.isNone = false := by kernel_rfl
theorem nm48 : (Tryz.f48.name == "runtime.NumGoroutine") = false := by kernel_rfl
theorem bd48 : Tryz.f48.body.isNone = false := by kernel_rfl
theorem nm49 : (Tryz.f49.name == "runtime.NumGoroutine") = false := by kernel_rfl
theorem bd49 : Tryz.f49.body.isNone = false := by kernel_rfl
theorem nm50 : (Tryz.f50.name == "runtime.NumGoroutine") = false := by kernel_rfl
theorem bd50 : Tryz.f50.body.isNone = true := by kernel_rfl
theorem nm51 : (Tryz.f51.name == "runtime.NumGoroutine") = false := by kernel_rfl
theorem bd51 : Tryz.f51.body.isNone = false := by kernel_rfl
theorem nm52 : (Tryz.f52.name == "runtime.NumGoroutine") = false := by kernel_rfl
theorem bd52 : Tryz.f52.body.isNone = false := by kernel_rfl
theorem nm53 : (Tryz.f53.name == "runtime.NumGoroutine") = false := by kernel_rfl
theorem bd53 : Tryz.f53.body.isNone = false := by kernel_rfl
theorem nm54 : (Tryz.f54.name == "runtime.NumGoroutine") = false := by kernel_rfl
theorem bd54 : Tryz.f54.body.isNone = false := by kernel_rfl
theorem nm55 : (Tryz.f55.name == "runtime.NumGoroutine") = false := by kernel_rfl
theorem bd55 : Tryz.f55.body.isNone = false := by kernel_rfl
theorem nm74 : (Tryz.f74.name == "runtime.NumGoroutine") = false := by kernel_rfl
theorem bd74 : Tryz.f74.body.isNone = false := by kernel_rfl
theorem nm76 : (Tryz.f76.name == "runtime.NumGoroutine") = false := by kernel_rfl
theorem bd76 : Tryz.f76.body.isNone = false := by kernel_rfl
theorem nm77 : (Tryz.f77.name == "runtime.NumGoroutine") = false := by kernel_rfl
theorem bd77 : Tryz.f77.body.isNone = false := by kernel_rfl
theorem nm78 : (Tryz.f78.name == "runtime.NumGoroutine") = false := by kernel_rfl
theorem bd78 : Tryz.f78.body.isNone = false := by kernel_rfl
theorem nm88 : (Tryz.f88.name == "runtime.NumGoroutine") = false := by kernel_rfl
theorem bd88 : Tryz.f88.body.isNone = false := by kernel_rfl
theorem nm89 : (Tryz.f89.name == "runtime.NumGoroutine") = false := by kernel_rfl
theorem bd89 : Tryz.f89.body.isNone = false := by kernel_rfl
theorem nm90 : (Tryz.f90.name == "runtime.NumGoroutine") = false := by kernel_rfl
theorem bd90 : Tryz.f90.body.isNone = false := by kernel_rfl
theorem nm91 : (Tryz.f91.name == "runtime.NumGoroutine") = false := by kernel_rfl
theorem bd91 : Tryz.f91.body.isNone = false := by kernel_rfl
theorem nm93 : (Tryz.f93.name == "runtime.NumGoroutine") = false := by kernel_rfl
theorem bd93 : Tryz.f93.body.isNone = false := by kernel_rfl
theorem nm105 : (Tryz.f105.name == "runtime.NumGoroutine") = false := by kernel_rfl
theorem bd105 : Tryz.f105.body.isNone = false := by kernel_rfl
theorem nm106 : (Tryz.f106.name == "runtime.NumGoroutine") = false := by kernel_rfl
theorem bd106 : Tryz.f106.body.isNone = false := by kernel_rfl
theorem nm107 : (Tryz.f107.name == "runtime.NumGoroutine") = false := by kernel_rfl
theorem bd107 : Tryz.f107.body.isNone = false := by kernel_rfl
theorem mixed : Tryz.prog.follows .mixedOrders = true := by kernel_rfl
end Go.Cw.Tryz
/-
  DERIVED: THE SHELF's CONTRACTS AT THIS DUMP, IN PLAIN WORDS (tools/lay-plain.mjs out of 'CwLayT.lean', which tools/lay-shelf.mjs wrote): THE SAME DECLARATIONS UNDER THE SAME NAMES: 'import', 'namespace', 'open', 'def', 'theorem' AND NOTHING ELSE: no command of the shelf's: FOR A HAND-IN. Each laying: the table of numbers ('.._ren') and one theorem, a field a fact of the dump's own or the kernel's comparison; each contract: ONE APPLICATION.
-/
namespace Go.Proofs
open Go.Shelf
def Tryz.laySplit_ren : Go.Shelf.Ren := ⟨fun | 146 => 105 | 221 => 111 | 268 => 113 | 138 => 114 | 143 => 115 | 195 => 116 | 197 => 117 | 218 => 118 | 219 => 119 | 260 => 120 | 217 => 121 | 225 => 122 | 224 => 123 | 267 => 124 | 266 => 125 | 314 => 126 | n => n, fun | 9 => 9 | 31 => 109 | 3 => 3 | 4 => 4 | 0 => 0 | 105 => 142 | 21 => 21 | 5 => 5 | 46 => 85 | 119 => 146 | 139 => 149 | 138 => 148 | 146 => 150 | 51 => 101 | n => n, fun | 1 => 0 | 3 => 1 | 4 => 2 | n => n⟩
theorem Tryz.laySplit : Go.Proofs.Lays.n146 Tryz.prog Tryz.laySplit_ren := {
  mixed := by kernel_rfl
  f138 := Tryz.func114.trans (congrArg some (by kernel_rfl))
  f143 := Tryz.func115.trans (congrArg some (by kernel_rfl))
  f146 := Tryz.func105.trans (congrArg some (by kernel_rfl))
  f195 := Tryz.func116.trans (congrArg some (by kernel_rfl))
  f197 := Tryz.func117.trans (congrArg some (by kernel_rfl))
  f217 := Tryz.func121.trans (congrArg some (by kernel_rfl))
  f218 := Tryz.func118.trans (congrArg some (by kernel_rfl))
  f219 := Tryz.func119.trans (congrArg some (by kernel_rfl))
  f221 := Tryz.func111.trans (congrArg some (by kernel_rfl))
  f224 := Tryz.func123.trans (congrArg some (by kernel_rfl))
  f225 := Tryz.func122.trans (congrArg some (by kernel_rfl))
  f260 := Tryz.func120.trans (congrArg some (by kernel_rfl))
  f266 := Tryz.func125.trans (congrArg some (by kernel_rfl))
  f267 := Tryz.func124.trans (congrArg some (by kernel_rfl))
  f268 := Tryz.func113.trans (congrArg some (by kernel_rfl))
  f314 := Tryz.func126.trans (congrArg some (by kernel_rfl))
  t0 := Tryz.underlying0
  a0 := Tryz.isAgg0
  z0 := Tryz.sizeOf0
  v0 := Tryz.zeroValue0
  t3 := Tryz.underlying3
  a3 := Tryz.isAgg3
  z3 := Tryz.sizeOf3
  v3 := Tryz.zeroValue3
  t4 := Tryz.underlying4
  a4 := Tryz.isAgg4
  z4 := Tryz.sizeOf4
  v4 := Tryz.zeroValue4
  t5 := Tryz.underlying5
  a5 := Tryz.isAgg5
  z5 := Tryz.sizeOf5
  v5 := Tryz.zeroValue5
  t9 := Tryz.underlying9
  a9 := Tryz.isAgg9
  z9 := Tryz.sizeOf9
  v9 := Tryz.zeroValue9
  t21 := Tryz.underlying21
  a21 := Tryz.isAgg21
  z21 := Tryz.sizeOf21
  v21 := Tryz.zeroValue21
  t31 := Tryz.underlying109
  a31 := Tryz.isAgg109
  z31 := Tryz.sizeOf109
  v31 := Tryz.zeroValue109
  t46 := Tryz.underlying85
  a46 := Tryz.isAgg85
  z46 := Tryz.sizeOf85
  v46 := Tryz.zeroValue85
  t51 := Tryz.underlying101
  a51 := Tryz.isAgg101
  z51 := Tryz.sizeOf101
  v51 := Tryz.zeroValue101
  t105 := Tryz.underlying142
  a105 := Tryz.isAgg142
  z105 := Tryz.sizeOf142
  v105 := Tryz.zeroValue142
  t119 := Tryz.underlying146
  a119 := Tryz.isAgg146
  z119 := Tryz.sizeOf146
  t138 := Tryz.underlying148
  a138 := Tryz.isAgg148
  z138 := Tryz.sizeOf148
  v138 := Tryz.zeroValue148
  t139 := Tryz.underlying149
  a139 := Tryz.isAgg149
  z139 := Tryz.sizeOf149
  v139 := Tryz.zeroValue149
  t146 := Tryz.underlying150
  a146 := Tryz.isAgg150
  z146 := Tryz.sizeOf150
  v146 := Tryz.zeroValue150
  g1 := by kernel_rfl
  g3 := by kernel_rfl
  g4 := by kernel_rfl }
def Tryz.layCompare_ren : Go.Shelf.Ren := ⟨fun | 106 => 49 | 213 => 75 | 265 => 92 | n => n, fun | 9 => 9 | 3 => 3 | n => n, fun | n => n⟩
theorem Tryz.layCompare : Go.Proofs.Lays.n106 Tryz.prog Tryz.layCompare_ren := {
  mixed := by kernel_rfl
  f106 := Tryz.func49.trans (congrArg some (by kernel_rfl))
  f213 := Tryz.func75.trans (congrArg some (by kernel_rfl))
  f265 := Tryz.func92.trans (congrArg some (by kernel_rfl))
  t3 := Tryz.underlying3
  a3 := Tryz.isAgg3
  z3 := Tryz.sizeOf3
  v3 := Tryz.zeroValue3
  t9 := Tryz.underlying9
  a9 := Tryz.isAgg9
  z9 := Tryz.sizeOf9
  v9 := Tryz.zeroValue9 }
def Tryz.laySortI_ren : Go.Shelf.Ren := ⟨fun | 189 => 55 | 125 => 45 | 257 => 79 | 128 => 64 | 129 => 65 | 294 => 94 | 295 => 95 | 296 => 96 | 297 => 97 | 298 => 98 | 299 => 99 | 216 => 100 | 300 => 101 | 301 => 102 | 328 => 108 | 329 => 81 | 330 => 82 | 331 => 109 | 332 => 110 | 215 => 107 | 343 => 112 | n => n, fun | 28 => 60 | 3 => 3 | 46 => 85 | 0 => 0 | 51 => 101 | 53 => 103 | 4 => 4 | 183 => 95 | 182 => 94 | 131 => 75 | 5 => 5 | 9 => 9 | 218 => 112 | 222 => 116 | 228 => 129 | 229 => 130 | n => n, fun | n => n⟩
theorem Tryz.laySortI : Go.Proofs.Lays.n189 Tryz.prog Tryz.laySortI_ren := {
  mixed := by kernel_rfl
  f125 := Tryz.func45.trans (congrArg some (by kernel_rfl))
  f128 := Tryz.func64.trans (congrArg some (by kernel_rfl))
  f129 := Tryz.func65.trans (congrArg some (by kernel_rfl))
  f189 := Tryz.func55.trans (congrArg some (by kernel_rfl))
  f215 := Tryz.func107.trans (congrArg some (by kernel_rfl))
  f216 := Tryz.func100.trans (congrArg some (by kernel_rfl))
  f257 := Tryz.func79.trans (congrArg some (by kernel_rfl))
  f294 := Tryz.func94.trans (congrArg some (by kernel_rfl))
  f295 := Tryz.func95.trans (congrArg some (by kernel_rfl))
  f296 := Tryz.func96.trans (congrArg some (by kernel_rfl))
  f297 := Tryz.func97.trans (congrArg some (by kernel_rfl))
  f298 := Tryz.func98.trans (congrArg some (by kernel_rfl))
  f299 := Tryz.func99.trans (congrArg some (by kernel_rfl))
  f300 := Tryz.func101.trans (congrArg some (by kernel_rfl))
  f301 := Tryz.func102.trans (congrArg some (by kernel_rfl))
  f328 := Tryz.func108.trans (congrArg some (by kernel_rfl))
  f329 := Tryz.func81.trans (congrArg some (by kernel_rfl))
  f330 := Tryz.func82.trans (congrArg some (by kernel_rfl))
  f331 := Tryz.func109.trans (congrArg some (by kernel_rfl))
  f332 := Tryz.func110.trans (congrArg some (by kernel_rfl))
  f343 := Tryz.func112.trans (congrArg some (by kernel_rfl))
  t0 := Tryz.underlying0
  a0 := Tryz.isAgg0
  z0 := Tryz.sizeOf0
  v0 := Tryz.zeroValue0
  t3 := Tryz.underlying3
  a3 := Tryz.isAgg3
  z3 := Tryz.sizeOf3
  v3 := Tryz.zeroValue3
  t4 := Tryz.underlying4
  a4 := Tryz.isAgg4
  z4 := Tryz.sizeOf4
  v4 := Tryz.zeroValue4
  t5 := Tryz.underlying5
  a5 := Tryz.isAgg5
  z5 := Tryz.sizeOf5
  v5 := Tryz.zeroValue5
  t9 := Tryz.underlying9
  a9 := Tryz.isAgg9
  z9 := Tryz.sizeOf9
  v9 := Tryz.zeroValue9
  t28 := Tryz.underlying60
  a28 := Tryz.isAgg60
  z28 := Tryz.sizeOf60
  v28 := Tryz.zeroValue60
  t46 := Tryz.underlying85
  a46 := Tryz.isAgg85
  z46 := Tryz.sizeOf85
  v46 := Tryz.zeroValue85
  t51 := Tryz.underlying101
  a51 := Tryz.isAgg101
  z51 := Tryz.sizeOf101
  v51 := Tryz.zeroValue101
  t53 := Tryz.underlying103
  a53 := Tryz.isAgg103
  z53 := Tryz.sizeOf103
  v53 := Tryz.zeroValue103
  t131 := Tryz.underlying75
  a131 := Tryz.isAgg75
  z131 := Tryz.sizeOf75
  v131 := Tryz.zeroValue75
  t182 := Tryz.underlying94
  a182 := Tryz.isAgg94
  z182 := Tryz.sizeOf94
  v182 := Tryz.zeroValue94
  t183 := Tryz.underlying95
  a183 := Tryz.isAgg95
  z183 := Tryz.sizeOf95
  v183 := Tryz.zeroValue95
  t218 := Tryz.underlying112
  a218 := Tryz.isAgg112
  z218 := Tryz.sizeOf112
  v218 := Tryz.zeroValue112
  t222 := Tryz.underlying116
  a222 := Tryz.isAgg116
  z222 := Tryz.sizeOf116
  v222 := Tryz.zeroValue116
  t228 := Tryz.underlying129
  a228 := Tryz.isAgg129
  z228 := Tryz.sizeOf129
  v228 := Tryz.zeroValue129
  t229 := Tryz.underlying130
  a229 := Tryz.isAgg130
  z229 := Tryz.sizeOf130
  v229 := Tryz.zeroValue130 }
def Tryz.laySortL_ren : Go.Shelf.Ren := ⟨fun | 6 => 35 | 15 => 45 | 14 => 47 | 28 => 64 | 29 => 65 | 20 => 66 | 21 => 67 | 22 => 68 | 23 => 69 | 24 => 70 | 25 => 71 | 26 => 72 | 27 => 73 | 46 => 85 | 47 => 81 | 48 => 82 | 49 => 86 | 50 => 87 | 57 => 104 | n => n, fun | 22 => 30 | 24 => 44 | 25 => 72 | 3 => 3 | 39 => 85 | 0 => 0 | 53 => 101 | 55 => 103 | 4 => 4 | 46 => 95 | 45 => 94 | 50 => 75 | 5 => 5 | 9 => 9 | 66 => 112 | 70 => 116 | 76 => 129 | 77 => 130 | n => n, fun | n => n⟩
theorem Tryz.laySortL : Go.Proofs.SlLaysF0.n6 Tryz.prog Tryz.laySortL_ren := {
  mixed := by kernel_rfl
  f6 := ⟨Tryz.f35.name, by decide, Tryz.func35.trans (congrArg some (by kernel_rfl))⟩
  f14 := ⟨Tryz.f47.name, by decide, Tryz.func47.trans (congrArg some (by kernel_rfl))⟩
  f15 := Tryz.func45.trans (congrArg some (by kernel_rfl))
  f20 := ⟨Tryz.f66.name, by decide, Tryz.func66.trans (congrArg some (by kernel_rfl))⟩
  f21 := ⟨Tryz.f67.name, by decide, Tryz.func67.trans (congrArg some (by kernel_rfl))⟩
  f22 := ⟨Tryz.f68.name, by decide, Tryz.func68.trans (congrArg some (by kernel_rfl))⟩
  f23 := ⟨Tryz.f69.name, by decide, Tryz.func69.trans (congrArg some (by kernel_rfl))⟩
  f24 := ⟨Tryz.f70.name, by decide, Tryz.func70.trans (congrArg some (by kernel_rfl))⟩
  f25 := ⟨Tryz.f71.name, by decide, Tryz.func71.trans (congrArg some (by kernel_rfl))⟩
  f26 := ⟨Tryz.f72.name, by decide, Tryz.func72.trans (congrArg some (by kernel_rfl))⟩
  f27 := ⟨Tryz.f73.name, by decide, Tryz.func73.trans (congrArg some (by kernel_rfl))⟩
  f28 := Tryz.func64.trans (congrArg some (by kernel_rfl))
  f29 := Tryz.func65.trans (congrArg some (by kernel_rfl))
  f46 := ⟨Tryz.f85.name, by decide, Tryz.func85.trans (congrArg some (by kernel_rfl))⟩
  f47 := Tryz.func81.trans (congrArg some (by kernel_rfl))
  f48 := Tryz.func82.trans (congrArg some (by kernel_rfl))
  f49 := ⟨Tryz.f86.name, by decide, Tryz.func86.trans (congrArg some (by kernel_rfl))⟩
  f50 := ⟨Tryz.f87.name, by decide, Tryz.func87.trans (congrArg some (by kernel_rfl))⟩
  f57 := ⟨Tryz.f104.name, by decide, Tryz.func104.trans (congrArg some (by kernel_rfl))⟩
  t0 := Tryz.underlying0
  a0 := Tryz.isAgg0
  z0 := Tryz.sizeOf0
  v0 := Tryz.zeroValue0
  t3 := Tryz.underlying3
  a3 := Tryz.isAgg3
  z3 := Tryz.sizeOf3
  v3 := Tryz.zeroValue3
  t4 := Tryz.underlying4
  a4 := Tryz.isAgg4
  z4 := Tryz.sizeOf4
  v4 := Tryz.zeroValue4
  t5 := Tryz.underlying5
  a5 := Tryz.isAgg5
  z5 := Tryz.sizeOf5
  v5 := Tryz.zeroValue5
  t9 := Tryz.underlying9
  a9 := Tryz.isAgg9
  z9 := Tryz.sizeOf9
  v9 := Tryz.zeroValue9
  t22 := Tryz.underlying30
  a22 := Tryz.isAgg30
  z22 := Tryz.sizeOf30
  v22 := Tryz.zeroValue30
  t25 := Tryz.underlying72
  a25 := Tryz.isAgg72
  z25 := Tryz.sizeOf72
  v25 := Tryz.zeroValue72
  t39 := Tryz.underlying85
  a39 := Tryz.isAgg85
  z39 := Tryz.sizeOf85
  v39 := Tryz.zeroValue85
  t45 := Tryz.underlying94
  a45 := Tryz.isAgg94
  z45 := Tryz.sizeOf94
  v45 := Tryz.zeroValue94
  t46 := Tryz.underlying95
  a46 := Tryz.isAgg95
  z46 := Tryz.sizeOf95
  v46 := Tryz.zeroValue95
  t50 := Tryz.underlying75
  a50 := Tryz.isAgg75
  z50 := Tryz.sizeOf75
  v50 := Tryz.zeroValue75
  t53 := Tryz.underlying101
  a53 := Tryz.isAgg101
  z53 := Tryz.sizeOf101
  v53 := Tryz.zeroValue101
  t55 := Tryz.underlying103
  a55 := Tryz.isAgg103
  z55 := Tryz.sizeOf103
  v55 := Tryz.zeroValue103
  t66 := Tryz.underlying112
  a66 := Tryz.isAgg112
  z66 := Tryz.sizeOf112
  v66 := Tryz.zeroValue112
  t70 := Tryz.underlying116
  a70 := Tryz.isAgg116
  z70 := Tryz.sizeOf116
  v70 := Tryz.zeroValue116
  t76 := Tryz.underlying129
  a76 := Tryz.isAgg129
  z76 := Tryz.sizeOf129
  v76 := Tryz.zeroValue129
  t77 := Tryz.underlying130
  a77 := Tryz.isAgg130
  z77 := Tryz.sizeOf130
  v77 := Tryz.zeroValue130 }
def Tryz.laySortP_ren : Go.Shelf.Ren := ⟨fun | 6 => 31 | 15 => 45 | 14 => 44 | 28 => 64 | 29 => 65 | 20 => 56 | 21 => 57 | 22 => 58 | 23 => 59 | 24 => 60 | 25 => 61 | 26 => 62 | 27 => 63 | 46 => 80 | 47 => 81 | 48 => 82 | 49 => 83 | 50 => 84 | 57 => 103 | n => n, fun | 22 => 28 | 24 => 30 | 25 => 66 | 3 => 3 | 39 => 85 | 0 => 0 | 53 => 101 | 55 => 103 | 4 => 4 | 46 => 95 | 45 => 94 | 50 => 75 | 5 => 5 | 9 => 9 | 66 => 112 | 70 => 116 | 76 => 129 | 77 => 130 | n => n, fun | n => n⟩
theorem Tryz.laySortP : Go.Proofs.SlLaysF.n6 Tryz.prog Tryz.laySortP_ren := {
  mixed := by kernel_rfl
  f6 := ⟨Tryz.f31.name, by decide, Tryz.func31.trans (congrArg some (by kernel_rfl))⟩
  f14 := ⟨Tryz.f44.name, by decide, Tryz.func44.trans (congrArg some (by kernel_rfl))⟩
  f15 := Tryz.func45.trans (congrArg some (by kernel_rfl))
  f20 := ⟨Tryz.f56.name, by decide, Tryz.func56.trans (congrArg some (by kernel_rfl))⟩
  f21 := ⟨Tryz.f57.name, by decide, Tryz.func57.trans (congrArg some (by kernel_rfl))⟩
  f22 := ⟨Tryz.f58.name, by decide, Tryz.func58.trans (congrArg some (by kernel_rfl))⟩
  f23 := ⟨Tryz.f59.name, by decide, Tryz.func59.trans (congrArg some (by kernel_rfl))⟩
  f24 := ⟨Tryz.f60.name, by decide, Tryz.func60.trans (congrArg some (by kernel_rfl))⟩
  f25 := ⟨Tryz.f61.name, by decide, Tryz.func61.trans (congrArg some (by kernel_rfl))⟩
  f26 := ⟨Tryz.f62.name, by decide, Tryz.func62.trans (congrArg some (by kernel_rfl))⟩
  f27 := ⟨Tryz.f63.name, by decide, Tryz.func63.trans (congrArg some (by kernel_rfl))⟩
  f28 := Tryz.func64.trans (congrArg some (by kernel_rfl))
  f29 := Tryz.func65.trans (congrArg some (by kernel_rfl))
  f46 := ⟨Tryz.f80.name, by decide, Tryz.func80.trans (congrArg some (by kernel_rfl))⟩
  f47 := Tryz.func81.trans (congrArg some (by kernel_rfl))
  f48 := Tryz.func82.trans (congrArg some (by kernel_rfl))
  f49 := ⟨Tryz.f83.name, by decide, Tryz.func83.trans (congrArg some (by kernel_rfl))⟩
  f50 := ⟨Tryz.f84.name, by decide, Tryz.func84.trans (congrArg some (by kernel_rfl))⟩
  f57 := ⟨Tryz.f103.name, by decide, Tryz.func103.trans (congrArg some (by kernel_rfl))⟩
  t0 := Tryz.underlying0
  a0 := Tryz.isAgg0
  z0 := Tryz.sizeOf0
  v0 := Tryz.zeroValue0
  t3 := Tryz.underlying3
  a3 := Tryz.isAgg3
  z3 := Tryz.sizeOf3
  v3 := Tryz.zeroValue3
  t4 := Tryz.underlying4
  a4 := Tryz.isAgg4
  z4 := Tryz.sizeOf4
  v4 := Tryz.zeroValue4
  t5 := Tryz.underlying5
  a5 := Tryz.isAgg5
  z5 := Tryz.sizeOf5
  v5 := Tryz.zeroValue5
  t9 := Tryz.underlying9
  a9 := Tryz.isAgg9
  z9 := Tryz.sizeOf9
  v9 := Tryz.zeroValue9
  t22 := Tryz.underlying28
  a22 := Tryz.isAgg28
  z22 := Tryz.sizeOf28
  v22 := Tryz.zeroValue28
  a24 := Tryz.isAgg30
  z24 := Tryz.sizeOf30
  t25 := Tryz.underlying66
  a25 := Tryz.isAgg66
  z25 := Tryz.sizeOf66
  v25 := Tryz.zeroValue66
  t39 := Tryz.underlying85
  a39 := Tryz.isAgg85
  z39 := Tryz.sizeOf85
  v39 := Tryz.zeroValue85
  t45 := Tryz.underlying94
  a45 := Tryz.isAgg94
  z45 := Tryz.sizeOf94
  v45 := Tryz.zeroValue94
  t46 := Tryz.underlying95
  a46 := Tryz.isAgg95
  z46 := Tryz.sizeOf95
  v46 := Tryz.zeroValue95
  t50 := Tryz.underlying75
  a50 := Tryz.isAgg75
  z50 := Tryz.sizeOf75
  v50 := Tryz.zeroValue75
  t53 := Tryz.underlying101
  a53 := Tryz.isAgg101
  z53 := Tryz.sizeOf101
  v53 := Tryz.zeroValue101
  t55 := Tryz.underlying103
  a55 := Tryz.isAgg103
  z55 := Tryz.sizeOf103
  v55 := Tryz.zeroValue103
  t66 := Tryz.underlying112
  a66 := Tryz.isAgg112
  z66 := Tryz.sizeOf112
  v66 := Tryz.zeroValue112
  t70 := Tryz.underlying116
  a70 := Tryz.isAgg116
  z70 := Tryz.sizeOf116
  v70 := Tryz.zeroValue116
  t76 := Tryz.underlying129
  a76 := Tryz.isAgg129
  z76 := Tryz.sizeOf129
  v76 := Tryz.zeroValue129
  t77 := Tryz.underlying130
  a77 := Tryz.isAgg130
  z77 := Tryz.sizeOf130
  v77 := Tryz.zeroValue130 }
def Tryz.laySortP0_ren : Go.Shelf.Ren := ⟨fun | 6 => 31 | 15 => 45 | 14 => 44 | 28 => 64 | 29 => 65 | 20 => 56 | 21 => 57 | 22 => 58 | 23 => 59 | 24 => 60 | 25 => 61 | 26 => 62 | 27 => 63 | 46 => 80 | 47 => 81 | 48 => 82 | 49 => 83 | 50 => 84 | 57 => 103 | n => n, fun | 22 => 28 | 24 => 30 | 25 => 66 | 3 => 3 | 39 => 85 | 0 => 0 | 53 => 101 | 55 => 103 | 4 => 4 | 46 => 95 | 45 => 94 | 50 => 75 | 5 => 5 | 9 => 9 | 66 => 112 | 70 => 116 | 76 => 129 | 77 => 130 | n => n, fun | n => n⟩
theorem Tryz.laySortP0 : Go.Proofs.SlLaysF0.n6 Tryz.prog Tryz.laySortP0_ren := {
  mixed := by kernel_rfl
  f6 := ⟨Tryz.f31.name, by decide, Tryz.func31.trans (congrArg some (by kernel_rfl))⟩
  f14 := ⟨Tryz.f44.name, by decide, Tryz.func44.trans (congrArg some (by kernel_rfl))⟩
  f15 := Tryz.func45.trans (congrArg some (by kernel_rfl))
  f20 := ⟨Tryz.f56.name, by decide, Tryz.func56.trans (congrArg some (by kernel_rfl))⟩
  f21 := ⟨Tryz.f57.name, by decide, Tryz.func57.trans (congrArg some (by kernel_rfl))⟩
  f22 := ⟨Tryz.f58.name, by decide, Tryz.func58.trans (congrArg some (by kernel_rfl))⟩
  f23 := ⟨Tryz.f59.name, by decide, Tryz.func59.trans (congrArg some (by kernel_rfl))⟩
  f24 := ⟨Tryz.f60.name, by decide, Tryz.func60.trans (congrArg some (by kernel_rfl))⟩
  f25 := ⟨Tryz.f61.name, by decide, Tryz.func61.trans (congrArg some (by kernel_rfl))⟩
  f26 := ⟨Tryz.f62.name, by decide, Tryz.func62.trans (congrArg some (by kernel_rfl))⟩
  f27 := ⟨Tryz.f63.name, by decide, Tryz.func63.trans (congrArg some (by kernel_rfl))⟩
  f28 := Tryz.func64.trans (congrArg some (by kernel_rfl))
  f29 := Tryz.func65.trans (congrArg some (by kernel_rfl))
  f46 := ⟨Tryz.f80.name, by decide, Tryz.func80.trans (congrArg some (by kernel_rfl))⟩
  f47 := Tryz.func81.trans (congrArg some (by kernel_rfl))
  f48 := Tryz.func82.trans (congrArg some (by kernel_rfl))
  f49 := ⟨Tryz.f83.name, by decide, Tryz.func83.trans (congrArg some (by kernel_rfl))⟩
  f50 := ⟨Tryz.f84.name, by decide, Tryz.func84.trans (congrArg some (by kernel_rfl))⟩
  f57 := ⟨Tryz.f103.name, by decide, Tryz.func103.trans (congrArg some (by kernel_rfl))⟩
  t0 := Tryz.underlying0
  a0 := Tryz.isAgg0
  z0 := Tryz.sizeOf0
  v0 := Tryz.zeroValue0
  t3 := Tryz.underlying3
  a3 := Tryz.isAgg3
  z3 := Tryz.sizeOf3
  v3 := Tryz.zeroValue3
  t4 := Tryz.underlying4
  a4 := Tryz.isAgg4
  z4 := Tryz.sizeOf4
  v4 := Tryz.zeroValue4
  t5 := Tryz.underlying5
  a5 := Tryz.isAgg5
  z5 := Tryz.sizeOf5
  v5 := Tryz.zeroValue5
  t9 := Tryz.underlying9
  a9 := Tryz.isAgg9
  z9 := Tryz.sizeOf9
  v9 := Tryz.zeroValue9
  t22 := Tryz.underlying28
  a22 := Tryz.isAgg28
  z22 := Tryz.sizeOf28
  v22 := Tryz.zeroValue28
  t25 := Tryz.underlying66
  a25 := Tryz.isAgg66
  z25 := Tryz.sizeOf66
  v25 := Tryz.zeroValue66
  t39 := Tryz.underlying85
  a39 := Tryz.isAgg85
  z39 := Tryz.sizeOf85
  v39 := Tryz.zeroValue85
  t45 := Tryz.underlying94
  a45 := Tryz.isAgg94
  z45 := Tryz.sizeOf94
  v45 := Tryz.zeroValue94
  t46 := Tryz.underlying95
  a46 := Tryz.isAgg95
  z46 := Tryz.sizeOf95
  v46 := Tryz.zeroValue95
  t50 := Tryz.underlying75
  a50 := Tryz.isAgg75
  z50 := Tryz.sizeOf75
  v50 := Tryz.zeroValue75
  t53 := Tryz.underlying101
  a53 := Tryz.isAgg101
  z53 := Tryz.sizeOf101
  v53 := Tryz.zeroValue101
  t55 := Tryz.underlying103
  a55 := Tryz.isAgg103
  z55 := Tryz.sizeOf103
  v55 := Tryz.zeroValue103
  t66 := Tryz.underlying112
  a66 := Tryz.isAgg112
  z66 := Tryz.sizeOf112
  v66 := Tryz.zeroValue112
  t70 := Tryz.underlying116
  a70 := Tryz.isAgg116
  z70 := Tryz.sizeOf116
  v70 := Tryz.zeroValue116
  t76 := Tryz.underlying129
  a76 := Tryz.isAgg129
  z76 := Tryz.sizeOf129
  v76 := Tryz.zeroValue129
  t77 := Tryz.underlying130
  a77 := Tryz.isAgg130
  z77 := Tryz.sizeOf130
  v77 := Tryz.zeroValue130 }
end Go.Proofs
