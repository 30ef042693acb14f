/-
  DERIVED, MY OWN. A part of the proof of ExtentBlocks: see the last text (Row).
-/
import Derived.Test.YteldlckmleblkaaDvC
import Derived.Test.YteldlckmleblkaaProg
set_option linter.all false


set_option autoImplicit false
set_option maxRecDepth 20000
namespace Go.Dv
open Go Go.RowKit Go.Proofs
theorem in2 : (Try.prog.info? 2).isSome = true := by kernel_rfl
theorem sz2 : szOf Try.prog 2 = 1 := by kernel_rfl
theorem ag2 : aggO Try.prog 2 = some false := by kernel_rfl
theorem un2 : Try.prog.underlying 2 = some (.int .i64) := by kernel_rfl
theorem zr2 : zeros Try.prog 2 = some [.int .i64 0] := by kernel_rfl
theorem in3 : (Try.prog.info? 3).isSome = true := by kernel_rfl
theorem sz3 : szOf Try.prog 3 = 1 := by kernel_rfl
theorem ag3 : aggO Try.prog 3 = some false := by kernel_rfl
theorem un3 : Try.prog.underlying 3 = some (.int .i64) := by kernel_rfl
theorem zr3 : zeros Try.prog 3 = some [.int .i64 0] := by kernel_rfl
theorem in4 : (Try.prog.info? 4).isSome = true := by kernel_rfl
theorem sz4 : szOf Try.prog 4 = 1 := by kernel_rfl
theorem ag4 : aggO Try.prog 4 = some false := by kernel_rfl
theorem un4 : Try.prog.underlying 4 = some .bool := by kernel_rfl
theorem zr4 : zeros Try.prog 4 = some [.bool false] := by kernel_rfl
theorem in5 : (Try.prog.info? 5).isSome = true := by kernel_rfl
theorem sz5 : szOf Try.prog 5 = 1 := by kernel_rfl
theorem ag5 : aggO Try.prog 5 = some false := by kernel_rfl
theorem un5 : Try.prog.underlying 5 = some (.int .u8) := by kernel_rfl
theorem zr5 : zeros Try.prog 5 = some [.int .u8 0] := by kernel_rfl
theorem in9 : (Try.prog.info? 9).isSome = true := by kernel_rfl
theorem sz9 : szOf Try.prog 9 = 1 := by kernel_rfl
theorem ag9 : aggO Try.prog 9 = some false := by kernel_rfl
theorem un9 : Try.prog.underlying 9 = some .string := by kernel_rfl
theorem zr9 : zeros Try.prog 9 = some [.string ByteArray.empty] := by kernel_rfl
theorem in12 : (Try.prog.info? 12).isSome = true := by kernel_rfl
theorem sz12 : szOf Try.prog 12 = 1 := by kernel_rfl
theorem ag12 : aggO Try.prog 12 = some false := by kernel_rfl
theorem un12 : Try.prog.underlying 12 = some (.int .u64) := by kernel_rfl
theorem zr12 : zeros Try.prog 12 = some [.int .u64 0] := by kernel_rfl
theorem in13 : (Try.prog.info? 13).isSome = true := by kernel_rfl
theorem sz13 : szOf Try.prog 13 = 2 := by kernel_rfl
theorem ag13 : aggO Try.prog 13 = some true := by kernel_rfl
theorem fp13_0 : fieldPlace? Try.prog 13 0 = some (0, 9) := by kernel_rfl
theorem bp13_0 : buildPlace Try.prog 13 0 = some (0, 1) := by kernel_rfl
theorem fp13_1 : fieldPlace? Try.prog 13 1 = some (1, 12) := by kernel_rfl
theorem bp13_1 : buildPlace Try.prog 13 1 = some (1, 1) := by kernel_rfl
theorem fk13 : fieldsKnown Try.prog 13 = true := by kernel_rfl
theorem zr13 : zeros Try.prog 13 = some [.string ByteArray.empty, .int .u64 0] := by kernel_rfl
theorem in15 : (Try.prog.info? 15).isSome = true := by kernel_rfl
theorem sz15 : szOf Try.prog 15 = 1 := by kernel_rfl
theorem ag15 : aggO Try.prog 15 = some false := by kernel_rfl
theorem un15 : Try.prog.underlying 15 = some (.pointer 104) := by kernel_rfl
theorem zr15 : zeros Try.prog 15 = some [.pointer none] := by kernel_rfl
theorem in16 : (Try.prog.info? 16).isSome = true := by kernel_rfl
theorem sz16 : szOf Try.prog 16 = 1 := by kernel_rfl
theorem ag16 : aggO Try.prog 16 = some false := by kernel_rfl
theorem un16 : Try.prog.underlying 16 = some (.pointer 107) := by kernel_rfl
theorem zr16 : zeros Try.prog 16 = some [.pointer none] := by kernel_rfl
theorem in17 : (Try.prog.info? 17).isSome = true := by kernel_rfl
theorem sz17 : szOf Try.prog 17 = 1 := by kernel_rfl
theorem ag17 : aggO Try.prog 17 = some false := by kernel_rfl
theorem un17 : Try.prog.underlying 17 = some (.pointer 116) := by kernel_rfl
theorem zr17 : zeros Try.prog 17 = some [.pointer none] := by kernel_rfl
theorem in18 : (Try.prog.info? 18).isSome = true := by kernel_rfl
theorem sz18 : szOf Try.prog 18 = 1 := by kernel_rfl
theorem ag18 : aggO Try.prog 18 = some true := by kernel_rfl
theorem fp18_0 : fieldPlace? Try.prog 18 0 = some (0, 17) := by kernel_rfl
theorem bp18_0 : buildPlace Try.prog 18 0 = some (0, 1) := by kernel_rfl
theorem fk18 : fieldsKnown Try.prog 18 = true := by kernel_rfl
theorem zr18 : zeros Try.prog 18 = some [.pointer none] := by kernel_rfl
theorem in21 : (Try.prog.info? 21).isSome = true := by kernel_rfl
theorem sz21 : szOf Try.prog 21 = 1 := by kernel_rfl
theorem ag21 : aggO Try.prog 21 = some false := by kernel_rfl
theorem un21 : Try.prog.underlying 21 = some (.int .i32) := by kernel_rfl
theorem zr21 : zeros Try.prog 21 = some [.int .i32 0] := by kernel_rfl
theorem in22 : (Try.prog.info? 22).isSome = true := by kernel_rfl
theorem sz22 : szOf Try.prog 22 = 1 := by kernel_rfl
theorem ag22 : aggO Try.prog 22 = some false := by kernel_rfl
theorem un22 : Try.prog.underlying 22 = some (.slice 24) := by kernel_rfl
theorem zr22 : zeros Try.prog 22 = some [.slice none 0 0] := by kernel_rfl
theorem in23 : (Try.prog.info? 23).isSome = true := by kernel_rfl
theorem sz23 : szOf Try.prog 23 = 4 := by kernel_rfl
theorem ag23 : aggO Try.prog 23 = some true := by kernel_rfl
theorem fp23_0 : fieldPlace? Try.prog 23 0 = some (0, 3) := by kernel_rfl
theorem bp23_0 : buildPlace Try.prog 23 0 = some (0, 1) := by kernel_rfl
theorem fp23_1 : fieldPlace? Try.prog 23 1 = some (1, 3) := by kernel_rfl
theorem bp23_1 : buildPlace Try.prog 23 1 = some (1, 1) := by kernel_rfl
theorem fp23_2 : fieldPlace? Try.prog 23 2 = some (2, 3) := by kernel_rfl
theorem bp23_2 : buildPlace Try.prog 23 2 = some (2, 1) := by kernel_rfl
theorem fp23_3 : fieldPlace? Try.prog 23 3 = some (3, 4) := by kernel_rfl
theorem bp23_3 : buildPlace Try.prog 23 3 = some (3, 1) := by kernel_rfl
theorem fk23 : fieldsKnown Try.prog 23 = true := by kernel_rfl
theorem ef23 : eqFields? Try.prog 23 = some [(3, 0), (3, 1), (3, 2), (4, 3)] := by kernel_rfl
theorem zr23 : zeros Try.prog 23 = some [.int .i64 0, .int .i64 0, .int .i64 0, .bool false] := by kernel_rfl
theorem in24 : (Try.prog.info? 24).isSome = true := by kernel_rfl
theorem sz24 : szOf Try.prog 24 = 4 := by kernel_rfl
theorem ag24 : aggO Try.prog 24 = some true := by kernel_rfl
theorem fp24_0 : fieldPlace? Try.prog 24 0 = some (0, 3) := by kernel_rfl
theorem bp24_0 : buildPlace Try.prog 24 0 = some (0, 1) := by kernel_rfl
theorem fp24_1 : fieldPlace? Try.prog 24 1 = some (1, 3) := by kernel_rfl
theorem bp24_1 : buildPlace Try.prog 24 1 = some (1, 1) := by kernel_rfl
theorem fp24_2 : fieldPlace? Try.prog 24 2 = some (2, 3) := by kernel_rfl
theorem bp24_2 : buildPlace Try.prog 24 2 = some (2, 1) := by kernel_rfl
theorem fp24_3 : fieldPlace? Try.prog 24 3 = some (3, 4) := by kernel_rfl
theorem bp24_3 : buildPlace Try.prog 24 3 = some (3, 1) := by kernel_rfl
theorem fk24 : fieldsKnown Try.prog 24 = true := by kernel_rfl
theorem ef24 : eqFields? Try.prog 24 = some [(3, 0), (3, 1), (3, 2), (4, 3)] := by kernel_rfl
theorem zr24 : zeros Try.prog 24 = some [.int .i64 0, .int .i64 0, .int .i64 0, .bool false] := by kernel_rfl
theorem in26 : (Try.prog.info? 26).isSome = true := by kernel_rfl
theorem sz26 : szOf Try.prog 26 = 1 := by kernel_rfl
theorem ag26 : aggO Try.prog 26 = some false := by kernel_rfl
theorem un26 : Try.prog.underlying 26 = some (.int .i64) := by kernel_rfl
theorem zr26 : zeros Try.prog 26 = some [.int .i64 0] := by kernel_rfl
theorem in31 : (Try.prog.info? 31).isSome = true := by kernel_rfl
theorem sz31 : szOf Try.prog 31 = 1 := by kernel_rfl
theorem ag31 : aggO Try.prog 31 = some false := by kernel_rfl
theorem un31 : Try.prog.underlying 31 = some (.slice 52) := by kernel_rfl
theorem zr31 : zeros Try.prog 31 = some [.slice none 0 0] := by kernel_rfl
theorem in38 : (Try.prog.info? 38).isSome = true := by kernel_rfl
theorem sz38 : szOf Try.prog 38 = 1 := by kernel_rfl
theorem ag38 : aggO Try.prog 38 = some false := by kernel_rfl
theorem un38 : Try.prog.underlying 38 = some (.slice 3) := by kernel_rfl
theorem zr38 : zeros Try.prog 38 = some [.slice none 0 0] := by kernel_rfl
theorem in39 : (Try.prog.info? 39).isSome = true := by kernel_rfl
theorem sz39 : szOf Try.prog 39 = 1 := by kernel_rfl
theorem ag39 : aggO Try.prog 39 = some false := by kernel_rfl
theorem un39 : Try.prog.underlying 39 = some (.slice 5) := by kernel_rfl
theorem zr39 : zeros Try.prog 39 = some [.slice none 0 0] := by kernel_rfl
theorem in40 : (Try.prog.info? 40).isSome = true := by kernel_rfl
theorem sz40 : szOf Try.prog 40 = 1 := by kernel_rfl
theorem ag40 : aggO Try.prog 40 = some false := by kernel_rfl
theorem un40 : Try.prog.underlying 40 = some (.slice 39) := by kernel_rfl
theorem zr40 : zeros Try.prog 40 = some [.slice none 0 0] := by kernel_rfl
theorem in51 : (Try.prog.info? 51).isSome = true := by kernel_rfl
theorem sz51 : szOf Try.prog 51 = 2 := by kernel_rfl
theorem ag51 : aggO Try.prog 51 = some true := by kernel_rfl
theorem fp51_0 : fieldPlace? Try.prog 51 0 = some (0, 3) := by kernel_rfl
theorem bp51_0 : buildPlace Try.prog 51 0 = some (0, 1) := by kernel_rfl
theorem fp51_1 : fieldPlace? Try.prog 51 1 = some (1, 3) := by kernel_rfl
theorem bp51_1 : buildPlace Try.prog 51 1 = some (1, 1) := by kernel_rfl
theorem fk51 : fieldsKnown Try.prog 51 = true := by kernel_rfl
theorem ef51 : eqFields? Try.prog 51 = some [(3, 0), (3, 1)] := by kernel_rfl
theorem zr51 : zeros Try.prog 51 = some [.int .i64 0, .int .i64 0] := by kernel_rfl
theorem in52 : (Try.prog.info? 52).isSome = true := by kernel_rfl
theorem sz52 : szOf Try.prog 52 = 2 := by kernel_rfl
theorem ag52 : aggO Try.prog 52 = some true := by kernel_rfl
theorem fp52_0 : fieldPlace? Try.prog 52 0 = some (0, 3) := by kernel_rfl
theorem bp52_0 : buildPlace Try.prog 52 0 = some (0, 1) := by kernel_rfl
theorem fp52_1 : fieldPlace? Try.prog 52 1 = some (1, 3) := by kernel_rfl
theorem bp52_1 : buildPlace Try.prog 52 1 = some (1, 1) := by kernel_rfl
theorem fk52 : fieldsKnown Try.prog 52 = true := by kernel_rfl
theorem ef52 : eqFields? Try.prog 52 = some [(3, 0), (3, 1)] := by kernel_rfl
theorem zr52 : zeros Try.prog 52 = some [.int .i64 0, .int .i64 0] := by kernel_rfl
theorem in64 : (Try.prog.info? 64).isSome = true := by kernel_rfl
theorem sz64 : szOf Try.prog 64 = 1 := by kernel_rfl
theorem ag64 : aggO Try.prog 64 = some false := by kernel_rfl
theorem un64 : Try.prog.underlying 64 = some (.slice 5) := by kernel_rfl
theorem zr64 : zeros Try.prog 64 = some [.slice none 0 0] := by kernel_rfl
theorem in70 : (Try.prog.info? 70).isSome = true := by kernel_rfl
theorem sz70 : szOf Try.prog 70 = 1 := by kernel_rfl
theorem ag70 : aggO Try.prog 70 = some false := by kernel_rfl
theorem un70 : Try.prog.underlying 70 = some (.int .u32) := by kernel_rfl
theorem zr70 : zeros Try.prog 70 = some [.int .u32 0] := by kernel_rfl
theorem in76 : (Try.prog.info? 76).isSome = true := by kernel_rfl
theorem sz76 : szOf Try.prog 76 = 1 := by kernel_rfl
theorem ag76 : aggO Try.prog 76 = some false := by kernel_rfl
theorem un76 : Try.prog.underlying 76 = some (.int .u64) := by kernel_rfl
theorem zr76 : zeros Try.prog 76 = some [.int .u64 0] := by kernel_rfl
theorem in83 : (Try.prog.info? 83).isSome = true := by kernel_rfl
theorem sz83 : szOf Try.prog 83 = 16 := by kernel_rfl
theorem ag83 : aggO Try.prog 83 = some true := by kernel_rfl
theorem un83 : Try.prog.underlying 83 = some (.array 16 76) := by kernel_rfl
theorem zr83 : zeros Try.prog 83 = some [.int .u64 0, .int .u64 0, .int .u64 0, .int .u64 0, .int .u64 0, .int .u64 0, .int .u64 0, .int .u64 0, .int .u64 0, .int .u64 0, .int .u64 0, .int .u64 0, .int .u64 0, .int .u64 0, .int .u64 0, .int .u64 0] := by kernel_rfl
theorem in84 : (Try.prog.info? 84).isSome = true := by kernel_rfl
theorem sz84 : szOf Try.prog 84 = 1 := by kernel_rfl
theorem ag84 : aggO Try.prog 84 = some false := by kernel_rfl
theorem un84 : Try.prog.underlying 84 = some (.int .u64) := by kernel_rfl
theorem zr84 : zeros Try.prog 84 = some [.int .u64 0] := by kernel_rfl
theorem in91 : (Try.prog.info? 91).isSome = true := by kernel_rfl
theorem sz91 : szOf Try.prog 91 = 1 := by kernel_rfl
theorem ag91 : aggO Try.prog 91 = some false := by kernel_rfl
theorem in92 : (Try.prog.info? 92).isSome = true := by kernel_rfl
theorem sz92 : szOf Try.prog 92 = 0 := by kernel_rfl
theorem ag92 : aggO Try.prog 92 = some true := by kernel_rfl
theorem fk92 : fieldsKnown Try.prog 92 = true := by kernel_rfl
theorem ef92 : eqFields? Try.prog 92 = some [] := by kernel_rfl
theorem zr92 : zeros Try.prog 92 = some [] := by kernel_rfl
theorem in98 : (Try.prog.info? 98).isSome = true := by kernel_rfl
theorem sz98 : szOf Try.prog 98 = 256 := by kernel_rfl
theorem ag98 : aggO Try.prog 98 = some true := by kernel_rfl
theorem un98 : Try.prog.underlying 98 = some (.array 256 70) := by kernel_rfl
theorem in101 : (Try.prog.info? 101).isSome = true := by kernel_rfl
theorem sz101 : szOf Try.prog 101 = 1 := by kernel_rfl
theorem ag101 : aggO Try.prog 101 = some false := by kernel_rfl
theorem un101 : Try.prog.underlying 101 = some (.pointer 99) := by kernel_rfl
theorem zr101 : zeros Try.prog 101 = some [.pointer none] := by kernel_rfl
theorem in103 : (Try.prog.info? 103).isSome = true := by kernel_rfl
theorem sz103 : szOf Try.prog 103 = 4 := by kernel_rfl
theorem ag103 : aggO Try.prog 103 = some true := by kernel_rfl
theorem fp103_0 : fieldPlace? Try.prog 103 0 = some (0, 17) := by kernel_rfl
theorem bp103_0 : buildPlace Try.prog 103 0 = some (0, 1) := by kernel_rfl
theorem fp103_1 : fieldPlace? Try.prog 103 1 = some (1, 17) := by kernel_rfl
theorem bp103_1 : buildPlace Try.prog 103 1 = some (1, 1) := by kernel_rfl
theorem fp103_2 : fieldPlace? Try.prog 103 2 = some (2, 17) := by kernel_rfl
theorem bp103_2 : buildPlace Try.prog 103 2 = some (2, 1) := by kernel_rfl
theorem fp103_3 : fieldPlace? Try.prog 103 3 = some (3, 9) := by kernel_rfl
theorem bp103_3 : buildPlace Try.prog 103 3 = some (3, 1) := by kernel_rfl
theorem fk103 : fieldsKnown Try.prog 103 = true := by kernel_rfl
theorem zr103 : zeros Try.prog 103 = some [.pointer none, .pointer none, .pointer none, .string ByteArray.empty] := by kernel_rfl
theorem in105 : (Try.prog.info? 105).isSome = true := by kernel_rfl
theorem sz105 : szOf Try.prog 105 = 0 := by kernel_rfl
theorem ag105 : aggO Try.prog 105 = some true := by kernel_rfl
theorem un105 : Try.prog.underlying 105 = some (.array 0 16) := by kernel_rfl
theorem zr105 : zeros Try.prog 105 = some [] := by kernel_rfl
theorem in106 : (Try.prog.info? 106).isSome = true := by kernel_rfl
theorem sz106 : szOf Try.prog 106 = 0 := by kernel_rfl
theorem ag106 : aggO Try.prog 106 = some true := by kernel_rfl
theorem fp106_0 : fieldPlace? Try.prog 106 0 = some (0, 105) := by kernel_rfl
theorem bp106_0 : buildPlace Try.prog 106 0 = some (0, 0) := by kernel_rfl
theorem fk106 : fieldsKnown Try.prog 106 = true := by kernel_rfl
theorem zr106 : zeros Try.prog 106 = some [] := by kernel_rfl
theorem in112 : (Try.prog.info? 112).isSome = true := by kernel_rfl
theorem sz112 : szOf Try.prog 112 = 1 := by kernel_rfl
theorem ag112 : aggO Try.prog 112 = some false := by kernel_rfl
theorem un112 : Try.prog.underlying 112 = some (.pointer 5) := by kernel_rfl
theorem zr112 : zeros Try.prog 112 = some [.pointer none] := by kernel_rfl
theorem by2 : bytesOf Try.prog 2 = 8 := by kernel_rfl
theorem by3 : bytesOf Try.prog 3 = 8 := by kernel_rfl
theorem by4 : bytesOf Try.prog 4 = 1 := by kernel_rfl
theorem by5 : bytesOf Try.prog 5 = 1 := by kernel_rfl
theorem by9 : bytesOf Try.prog 9 = 16 := by kernel_rfl
theorem by12 : bytesOf Try.prog 12 = 8 := by kernel_rfl
theorem by13 : bytesOf Try.prog 13 = 24 := by kernel_rfl
theorem by15 : bytesOf Try.prog 15 = 8 := by kernel_rfl
theorem by16 : bytesOf Try.prog 16 = 8 := by kernel_rfl
theorem by17 : bytesOf Try.prog 17 = 8 := by kernel_rfl
theorem by18 : bytesOf Try.prog 18 = 8 := by kernel_rfl
theorem by21 : bytesOf Try.prog 21 = 4 := by kernel_rfl
theorem by22 : bytesOf Try.prog 22 = 24 := by kernel_rfl
theorem by23 : bytesOf Try.prog 23 = 32 := by kernel_rfl
theorem by24 : bytesOf Try.prog 24 = 32 := by kernel_rfl
theorem by26 : bytesOf Try.prog 26 = 8 := by kernel_rfl
theorem by31 : bytesOf Try.prog 31 = 24 := by kernel_rfl
theorem by38 : bytesOf Try.prog 38 = 24 := by kernel_rfl
theorem by39 : bytesOf Try.prog 39 = 24 := by kernel_rfl
theorem by40 : bytesOf Try.prog 40 = 24 := by kernel_rfl
theorem by51 : bytesOf Try.prog 51 = 16 := by kernel_rfl
theorem by52 : bytesOf Try.prog 52 = 16 := by kernel_rfl
theorem by64 : bytesOf Try.prog 64 = 24 := by kernel_rfl
theorem by70 : bytesOf Try.prog 70 = 4 := by kernel_rfl
theorem by76 : bytesOf Try.prog 76 = 8 := by kernel_rfl
theorem by83 : bytesOf Try.prog 83 = 128 := by kernel_rfl
theorem by84 : bytesOf Try.prog 84 = 8 := by kernel_rfl
theorem by91 : bytesOf Try.prog 91 = 8 := by kernel_rfl
theorem by92 : bytesOf Try.prog 92 = 0 := by kernel_rfl
theorem by98 : bytesOf Try.prog 98 = 1024 := by kernel_rfl
theorem by101 : bytesOf Try.prog 101 = 8 := by kernel_rfl
theorem by103 : bytesOf Try.prog 103 = 40 := by kernel_rfl
theorem by105 : bytesOf Try.prog 105 = 0 := by kernel_rfl
theorem by106 : bytesOf Try.prog 106 = 0 := by kernel_rfl
theorem by112 : bytesOf Try.prog 112 = 8 := by kernel_rfl
end Go.Dv

/-
  DERIVED, MY OWN. The walk's own simplifying rules.
-/

set_option autoImplicit false
namespace Go.Dv
open Go
attribute [simp] evStep evPure evEff dstB St.eval put_env' put_own' put_ctr' put_none' setOwn_env' setOwn_own' setOwn_ctr'
attribute [simp] setCtr_env' setCtr_own' setCtr_ctr' St.live entry entryEnv entryOwn inAV scAV inOB cellsAV lift
attribute [simp] onesB AV.one fieldAddrAV fieldAV indexAddrAV indexAV sliceAV boundsAV lenAV loadAV storeAV window
attribute [simp] ofCells binAV binVal binInt binShift isShift unAV convAV buildAV fillAV intOfAV OB.gen
attribute [simp] OB.mt ofConst ofVal eqRes isSliceT isPtrT isIfcT toD toD1 toD0 mapD evCall
attribute [simp] argsIn argIn argImm argMut packAV resAV resOwn setMuts setMut Res.isOwn Res.shares Out.shares
attribute [simp] killable extractAV makeIfcAV minmaxAV dataOf datas fillRow obEsz zeroRow makeSliceAV buildSliceAV notInt
attribute [simp] newsOf appendAV copyAV binStr St.kill eqVal eqFs eqAgg capAV deRc appendX appendN
attribute [simp] appendRc lpName lpOB visE_env' visE_own' visE_ctr' findD ownKey seeEnv seeOwn in2 sz2
attribute [simp] ag2 un2 zr2 in3 sz3 ag3 un3 zr3 in4 sz4 ag4 un4
attribute [simp] zr4 in5 sz5 ag5 un5 zr5 in9 sz9 ag9 un9 zr9 in12
attribute [simp] sz12 ag12 un12 zr12 in13 sz13 ag13 fp13_0 bp13_0 fp13_1 bp13_1 fk13
attribute [simp] zr13 in15 sz15 ag15 un15 zr15 in16 sz16 ag16 un16 zr16 in17
attribute [simp] sz17 ag17 un17 zr17 in18 sz18 ag18 fp18_0 bp18_0 fk18 zr18 in21
attribute [simp] sz21 ag21 un21 zr21 in22 sz22 ag22 un22 zr22 in23 sz23 ag23
attribute [simp] fp23_0 bp23_0 fp23_1 bp23_1 fp23_2 bp23_2 fp23_3 bp23_3 fk23 ef23 zr23 in24
attribute [simp] sz24 ag24 fp24_0 bp24_0 fp24_1 bp24_1 fp24_2 bp24_2 fp24_3 bp24_3 fk24 ef24
attribute [simp] zr24 in26 sz26 ag26 un26 zr26 in31 sz31 ag31 un31 zr31 in38
attribute [simp] sz38 ag38 un38 zr38 in39 sz39 ag39 un39 zr39 in40 sz40 ag40
attribute [simp] un40 zr40 in51 sz51 ag51 fp51_0 bp51_0 fp51_1 bp51_1 fk51 ef51 zr51
attribute [simp] in52 sz52 ag52 fp52_0 bp52_0 fp52_1 bp52_1 fk52 ef52 zr52 in64 sz64
attribute [simp] ag64 un64 zr64 in70 sz70 ag70 un70 zr70 in76 sz76 ag76 un76
attribute [simp] zr76 in83 sz83 ag83 un83 zr83 in84 sz84 ag84 un84 zr84 in91
attribute [simp] sz91 ag91 in92 sz92 ag92 fk92 ef92 zr92 in98 sz98 ag98 un98
attribute [simp] in101 sz101 ag101 un101 zr101 in103 sz103 ag103 fp103_0 bp103_0 fp103_1 bp103_1
attribute [simp] fp103_2 bp103_2 fp103_3 bp103_3 fk103 zr103 in105 sz105 ag105 un105 zr105 in106
attribute [simp] sz106 ag106 fp106_0 bp106_0 fk106 zr106 in112 sz112 ag112 un112 zr112 by2
attribute [simp] by3 by4 by5 by9 by12 by13 by15 by16 by17 by18 by21 by22
attribute [simp] by23 by24 by26 by31 by38 by39 by40 by51 by52 by64 by70 by76
attribute [simp] by83 by84 by91 by92 by98 by101 by103 by105 by106 by112
end Go.Dv
