/- The functions in the machine's form, each tied to the loaded program by the kernel; the table of all. Printed by program. No condition. -/
import Derived.Test.YtjjaeedhbnchlaaGreatS4A1
import Derived.Test.YtjjaeedhbnchlaaGreatProg
import Derived.KernelRfl
import Derived.Test.YtjjaeedhbnchlaaGreatS4A2
import Derived.Test.YtjjaeedhbnchlaaGreatS4B1
section
namespace Go.TM.Fn
open Go.Proofs
def F199 : TFunc := ⟨1, 19, [(.tmp 2)],
 (.seq (.reg [⟨(some 2), (.mov (.c (.int .i64 0))), none, .full⟩])
 (.seq (.seq (.reg [⟨(some 3), (.mov (.t 0)), none, .full⟩, ⟨(some 4), (.bin false .geq (.t 3) (.c (.int .u32 65536))), none, .full⟩])
 (.cond (.t 4)
 (.seq (.reg [⟨(some 5), (.mov (.t 0)), none, .full⟩, ⟨(some 6), (.bin false .shr (.t 5) (.c (.int .u64 16))), none, .full⟩, ⟨(some 0), (.mov (.t 6)), none, .full⟩])
 (.reg [⟨(some 2), (.mov (.c (.int .i64 16))), none, .full⟩]))
 .skip))
 (.seq (.seq (.reg [⟨(some 7), (.mov (.t 0)), none, .full⟩, ⟨(some 8), (.bin false .geq (.t 7) (.c (.int .u32 256))), none, .full⟩])
 (.cond (.t 8)
 (.seq (.reg [⟨(some 9), (.mov (.t 0)), none, .full⟩, ⟨(some 10), (.bin false .shr (.t 9) (.c (.int .u64 8))), none, .full⟩, ⟨(some 0), (.mov (.t 10)), none, .full⟩])
 (.reg [⟨(some 11), (.mov (.t 2)), none, .full⟩, ⟨(some 12), (.bin false .add (.t 11) (.c (.int .i64 8))), none, .full⟩, ⟨(some 2), (.mov (.t 12)), none, .full⟩]))
 .skip))
 (.seq (.reg [⟨(some 13), (.mov (.t 2)), none, .full⟩, ⟨(some 14), (.mov (.t 0)), none, .full⟩, ⟨(some 15), (.conv .u8 (.t 14)), none, .full⟩, ⟨(some 16), (.index (.c (.str ⟨#[0, 1, 2, 2, 3, 3, 3, 3, 4, 4, 4, 4, 4, 4, 4, 4, 5, 5, 5, 5, 5, 5, 5, 5, 5, 5, 5, 5, 5, 5, 5, 5, 6, 6, 6, 6, 6, 6, 6, 6, 6, 6, 6, 6, 6, 6, 6, 6, 6, 6, 6, 6, 6, 6, 6, 6, 6, 6, 6, 6, 6, 6, 6, 6, 7, 7, 7, 7, 7, 7, 7, 7, 7, 7, 7, 7, 7, 7, 7, 7, 7, 7, 7, 7, 7, 7, 7, 7, 7, 7, 7, 7, 7, 7, 7, 7, 7, 7, 7, 7, 7, 7, 7, 7, 7, 7, 7, 7, 7, 7, 7, 7, 7, 7, 7, 7, 7, 7, 7, 7, 7, 7, 7, 7, 7, 7, 7, 7, 8, 8, 8, 8, 8, 8, 8, 8, 8, 8, 8, 8, 8, 8, 8, 8, 8, 8, 8, 8, 8, 8, 8, 8, 8, 8, 8, 8, 8, 8, 8, 8, 8, 8, 8, 8, 8, 8, 8, 8, 8, 8, 8, 8, 8, 8, 8, 8, 8, 8, 8, 8, 8, 8, 8, 8, 8, 8, 8, 8, 8, 8, 8, 8, 8, 8, 8, 8, 8, 8, 8, 8, 8, 8, 8, 8, 8, 8, 8, 8, 8, 8, 8, 8, 8, 8, 8, 8, 8, 8, 8, 8, 8, 8, 8, 8, 8, 8, 8, 8, 8, 8, 8, 8, 8, 8, 8, 8, 8, 8, 8, 8, 8, 8, 8, 8, 8, 8, 8, 8, 8, 8, 8, 8, 8, 8, 8, 8]⟩)) (.t 15)), none, .full⟩, ⟨(some 17), (.conv .i64 (.t 16)), none, .full⟩, ⟨(some 18), (.bin false .add (.t 13) (.t 17)), none, .full⟩, ⟨(some 2), (.mov (.t 18)), none, .full⟩])
 .ret))))⟩
theorem ok199 : ∃ fn hh, Tryz.prog.funcs[199]? = some fn ∧ (∀ vals w, (callFunc 199 vals).run Tryz.prog w = .ok (.enter 199 vals) w) ∧ comp Tryz.prog hh fn = some F199 :=
  ⟨_, hintOf [], Tryz.func199, Tryz.call199, by kernel_rfl⟩
def L210_0 : TCode := (.seq (.seq (.reg [⟨(some 10), (.mov (.t 6)), none, .full⟩, ⟨(some 11), (.bin false .geq (.t 10) (.c (.int .i64 0))), none, .full⟩])
 (.cond (.t 11)
 .skip
 (.exit 0)))
 (.seq (.block 1 (.seq (.reg [⟨(some 14), (.mov (.t 5)), none, .full⟩, ⟨(some 15), (.bin false .shl (.t 14) (.c (.int .u64 32))), none, .full⟩, ⟨(some 16), (.mov (.t 0)), none, .full⟩, ⟨(some 17), (.mov (.t 6)), none, .full⟩, ⟨(some 18), (.iaddr 1 (.t 16) (.t 17)), none, .full⟩, ⟨(some 19), (.load 1 false (.t 18)), none, .full⟩, ⟨(some 20), (.conv .u64 (.t 19)), none, .full⟩, ⟨(some 21), (.bin false .or (.t 15) (.t 20)), none, .full⟩, ⟨(some 5), (.mov (.t 21)), none, .full⟩])
 (.seq (.reg [⟨(some 22), (.mov (.t 0)), none, .full⟩, ⟨(some 23), (.mov (.t 6)), none, .full⟩, ⟨(some 24), (.mov (.t 5)), none, .full⟩, ⟨(some 25), (.mov (.t 1)), none, .full⟩, ⟨(some 26), (.conv .u64 (.t 25)), none, .full⟩, ⟨(some 27), (.bin false .quo (.t 24) (.t 26)), none, .full⟩, ⟨(some 28), (.conv .u32 (.t 27)), none, .full⟩, ⟨(some 29), (.iaddr 1 (.t 22) (.t 23)), none, .full⟩, ⟨none, (.store 1 (.t 29) (.t 28)), none, .full⟩])
 (.reg [⟨(some 30), (.mov (.t 5)), none, .full⟩, ⟨(some 31), (.mov (.t 1)), none, .full⟩, ⟨(some 32), (.conv .u64 (.t 31)), none, .full⟩, ⟨(some 33), (.bin false .rem (.t 30) (.t 32)), none, .full⟩, ⟨(some 5), (.mov (.t 33)), none, .full⟩]))))
 (.reg [⟨(some 12), (.mov (.t 6)), none, .full⟩, ⟨(some 13), (.bin false .sub (.t 12) (.c (.int .i64 1))), none, .full⟩, ⟨(some 6), (.mov (.t 13)), none, .full⟩])))
def F210 : TFunc := ⟨2, 36, [(.tmp 4)],
 (.seq (.reg [⟨(some 4), (.mov (.c (.int .u32 0))), none, .full⟩])
 (.seq (.reg [⟨(some 5), (.mov (.c (.int .u64 0))), none, .full⟩])
 (.seq (.seq (.reg [⟨(some 7), (.mov (.t 0)), none, .full⟩, ⟨(some 8), (.len false (.t 7)), none, .full⟩, ⟨(some 9), (.bin false .sub (.t 8) (.c (.int .i64 1))), none, .full⟩, ⟨(some 6), (.mov (.t 9)), none, .full⟩])
 (.block 0 (.loop L210_0)))
 (.seq (.reg [⟨(some 34), (.mov (.t 5)), none, .full⟩, ⟨(some 35), (.conv .u32 (.t 34)), none, .full⟩, ⟨(some 4), (.mov (.t 35)), none, .full⟩])
 .ret))))⟩
theorem ok210 : ∃ fn hh, Tryz.prog.funcs[210]? = some fn ∧ (∀ vals w, (callFunc 210 vals).run Tryz.prog w = .ok (.enter 210 vals) w) ∧ comp Tryz.prog hh fn = some F210 :=
  ⟨_, hintOf [], Tryz.func210, Tryz.call210, by kernel_rfl⟩
def F211 : TFunc := ⟨1, 6, [(.tmp 2)],
 (.seq (.reg [⟨(some 2), (.mov (.c (.int .i64 0))), none, .full⟩])
 (.seq (.reg [⟨(some 3), (.mov (.t 0)), none, .full⟩, ⟨(some 4), (.call 199 0 [] [(.t 3)]), none, .full⟩, ⟨(some 5), (.bin false .sub (.c (.int .i64 32)) (.t 4)), none, .full⟩, ⟨(some 2), (.mov (.t 5)), none, .full⟩])
 .ret))⟩
theorem ok211 : ∃ fn hh, Tryz.prog.funcs[211]? = some fn ∧ (∀ vals w, (callFunc 211 vals).run Tryz.prog w = .ok (.enter 211 vals) w) ∧ comp Tryz.prog hh fn = some F211 :=
  ⟨_, hintOf [], Tryz.func211, Tryz.call211, by kernel_rfl⟩
def L212_0 : TCode := (.seq (.reg [⟨(some 16), (.bin false .lss (.t 15) (.t 14)), none, .full⟩])
 (.seq (.cond (.t 16)
 .skip
 (.exit 0))
 (.seq (.block 1 (.seq (.reg [⟨(some 17), (.mov (.t 15)), none, .full⟩, ⟨(some 18), (.iaddr 1 (.t 13) (.t 15)), none, .full⟩, ⟨(some 19), (.load 1 false (.t 18)), none, .full⟩, ⟨(some 6), (.mov (.t 17)), none, .full⟩, ⟨(some 7), (.mov (.t 19)), none, .full⟩])
 (.seq (.reg [⟨(some 20), (.mov (.t 7)), none, .full⟩, ⟨(some 21), (.conv .u64 (.t 20)), none, .full⟩, ⟨(some 22), (.mov (.t 1)), none, .full⟩, ⟨(some 23), (.bin false .shl (.t 21) (.t 22)), none, .full⟩, ⟨(some 8), (.mov (.t 23)), none, .full⟩])
 (.seq (.reg [⟨(some 24), (.mov (.t 5)), none, .full⟩, ⟨(some 25), (.mov (.t 6)), none, .full⟩, ⟨(some 26), (.iaddr 1 (.t 24) (.t 25)), none, .full⟩, ⟨(some 27), (.load 1 false (.t 26)), none, .full⟩, ⟨(some 28), (.mov (.t 8)), none, .full⟩, ⟨(some 29), (.conv .u32 (.t 28)), none, .full⟩, ⟨(some 30), (.bin false .or (.t 27) (.t 29)), none, .full⟩, ⟨(some 31), (.iaddr 1 (.t 24) (.t 25)), none, .full⟩, ⟨none, (.store 1 (.t 31) (.t 30)), none, .full⟩])
 (.reg [⟨(some 32), (.mov (.t 5)), none, .full⟩, ⟨(some 33), (.mov (.t 6)), none, .full⟩, ⟨(some 34), (.bin false .add (.t 33) (.c (.int .i64 1))), none, .full⟩, ⟨(some 35), (.mov (.t 8)), none, .full⟩, ⟨(some 36), (.bin false .shr (.t 35) (.c (.int .u64 32))), none, .full⟩, ⟨(some 37), (.conv .u32 (.t 36)), none, .full⟩, ⟨(some 38), (.iaddr 1 (.t 32) (.t 34)), none, .full⟩, ⟨none, (.store 1 (.t 38) (.t 37)), none, .full⟩])))))
 (.reg [⟨(some 39), (.bin false .add (.t 15) (.c (.int .i64 1))), none, .full⟩, ⟨(some 15), (.mov (.t 39)), none, .full⟩]))))
def F212 : TFunc := ⟨2, 41, [(.tmp 4)],
 (.seq (.reg [⟨(some 4), (.mov (.c .nils)), none, .full⟩])
 (.seq (.reg [⟨(some 9), (.mov (.t 0)), none, .full⟩, ⟨(some 10), (.len false (.t 9)), none, .full⟩, ⟨(some 11), (.bin false .add (.t 10) (.c (.int .i64 1))), none, .full⟩, ⟨(some 12), (.mk 1 [(.int .u32 0)] (.t 11)), none, .full⟩, ⟨(some 5), (.mov (.t 12)), none, .full⟩])
 (.seq (.seq (.reg [⟨(some 13), (.mov (.t 0)), none, .full⟩, ⟨(some 14), (.len false (.t 13)), none, .full⟩, ⟨(some 15), (.mov (.c (.int .i64 0))), none, .full⟩])
 (.block 0 (.loop L212_0)))
 (.seq (.reg [⟨(some 40), (.mov (.t 5)), none, .full⟩, ⟨(some 4), (.mov (.t 40)), none, .full⟩])
 .ret))))⟩
theorem ok212 : ∃ fn hh, Tryz.prog.funcs[212]? = some fn ∧ (∀ vals w, (callFunc 212 vals).run Tryz.prog w = .ok (.enter 212 vals) w) ∧ comp Tryz.prog hh fn = some F212 :=
  ⟨_, hintOf [], Tryz.func212, Tryz.call212, by kernel_rfl⟩
def L213_0 : TCode := (.seq (.reg [⟨(some 19), (.bin false .lss (.t 18) (.t 17)), none, .full⟩])
 (.seq (.cond (.t 19)
 .skip
 (.exit 0))
 (.seq (.block 1 (.seq (.reg [⟨(some 20), (.mov (.t 18)), none, .full⟩, ⟨(some 21), (.iaddr 1 (.t 16) (.t 18)), none, .full⟩, ⟨(some 22), (.load 1 false (.t 21)), none, .full⟩, ⟨(some 11), (.mov (.t 20)), none, .full⟩, ⟨(some 12), (.mov (.t 22)), none, .full⟩])
 (.seq (.reg [⟨(some 23), (.mov (.t 9)), none, .full⟩, ⟨(some 24), (.mov (.t 3)), none, .full⟩, ⟨(some 25), (.mov (.t 12)), none, .full⟩, ⟨(some 26), (.conv .u64 (.t 25)), none, .full⟩, ⟨(some 27), (.bin false .mul (.t 24) (.t 26)), none, .full⟩, ⟨(some 28), (.bin false .add (.t 23) (.t 27)), none, .full⟩, ⟨(some 9), (.mov (.t 28)), none, .full⟩])
 (.seq (.reg [⟨(some 30), (.mov (.t 0)), none, .full⟩, ⟨(some 31), (.mov (.t 2)), none, .full⟩, ⟨(some 32), (.mov (.t 11)), none, .full⟩, ⟨(some 33), (.bin false .add (.t 31) (.t 32)), none, .full⟩, ⟨(some 34), (.mov (.t 0)), none, .full⟩, ⟨(some 35), (.mov (.t 2)), none, .full⟩, ⟨(some 36), (.mov (.t 11)), none, .full⟩, ⟨(some 37), (.bin false .add (.t 35) (.t 36)), none, .full⟩, ⟨(some 38), (.iaddr 1 (.t 34) (.t 37)), none, .full⟩, ⟨(some 39), (.load 1 false (.t 38)), none, .full⟩, ⟨(some 40), (.mov (.t 9)), none, .full⟩, ⟨(some 41), (.conv .u32 (.t 40)), none, .full⟩, ⟨(some 42), (.mov (.t 10)), none, .full⟩, ⟨(some 43), (.call 217 0 [] [(.t 39), (.t 41), (.t 42)]), none, .full⟩, ⟨(some 29), (.mov (.t 43)), none, .full⟩, ⟨(some 44), (.extract (.t 29) 0), none, .full⟩, ⟨(some 45), (.extract (.t 29) 1), none, .full⟩, ⟨(some 46), (.iaddr 1 (.t 30) (.t 33)), none, .full⟩, ⟨none, (.store 1 (.t 46) (.t 44)), none, .full⟩, ⟨(some 10), (.mov (.t 45)), none, .full⟩])
 (.reg [⟨(some 47), (.mov (.t 9)), none, .full⟩, ⟨(some 48), (.bin false .shr (.t 47) (.c (.int .u64 32))), none, .full⟩, ⟨(some 9), (.mov (.t 48)), none, .full⟩])))))
 (.reg [⟨(some 49), (.bin false .add (.t 18) (.c (.int .i64 1))), none, .full⟩, ⟨(some 18), (.mov (.t 49)), none, .full⟩]))))
def L213_1 : TCode := (.seq (.reg [⟨(some 77), (.bin false .lss (.t 76) (.t 75)), none, .full⟩])
 (.seq (.cond (.t 77)
 .skip
 (.exit 2))
 (.seq (.block 3 (.seq (.reg [⟨(some 78), (.mov (.t 76)), none, .full⟩, ⟨(some 79), (.iaddr 1 (.t 74) (.t 76)), none, .full⟩, ⟨(some 80), (.load 1 false (.t 79)), none, .full⟩, ⟨(some 14), (.mov (.t 78)), none, .full⟩, ⟨(some 15), (.mov (.t 80)), none, .full⟩])
 (.reg [⟨(some 82), (.mov (.t 0)), none, .full⟩, ⟨(some 83), (.mov (.t 2)), none, .full⟩, ⟨(some 84), (.mov (.t 14)), none, .full⟩, ⟨(some 85), (.bin false .add (.t 83) (.t 84)), none, .full⟩, ⟨(some 86), (.mov (.t 0)), none, .full⟩, ⟨(some 87), (.mov (.t 2)), none, .full⟩, ⟨(some 88), (.mov (.t 14)), none, .full⟩, ⟨(some 89), (.bin false .add (.t 87) (.t 88)), none, .full⟩, ⟨(some 90), (.iaddr 1 (.t 86) (.t 89)), none, .full⟩, ⟨(some 91), (.load 1 false (.t 90)), none, .full⟩, ⟨(some 92), (.mov (.t 15)), none, .full⟩, ⟨(some 93), (.mov (.t 13)), none, .full⟩, ⟨(some 94), (.call 216 0 [] [(.t 91), (.t 92), (.t 93)]), none, .full⟩, ⟨(some 81), (.mov (.t 94)), none, .full⟩, ⟨(some 95), (.extract (.t 81) 0), none, .full⟩, ⟨(some 96), (.extract (.t 81) 1), none, .full⟩, ⟨(some 97), (.iaddr 1 (.t 82) (.t 85)), none, .full⟩, ⟨none, (.store 1 (.t 97) (.t 95)), none, .full⟩, ⟨(some 13), (.mov (.t 96)), none, .full⟩])))
 (.reg [⟨(some 98), (.bin false .add (.t 76) (.c (.int .i64 1))), none, .full⟩, ⟨(some 76), (.mov (.t 98)), none, .full⟩]))))
def F213 : TFunc := ⟨4, 112, [(.tmp 8)],
 (.seq (.reg [⟨(some 8), (.mov (.c (.int .u32 0))), none, .full⟩])
 (.seq (.reg [⟨(some 9), (.mov (.c (.int .u64 0))), none, .full⟩, ⟨(some 10), (.mov (.c (.int .u32 0))), none, .full⟩])
 (.seq (.seq (.reg [⟨(some 16), (.mov (.t 1)), none, .full⟩, ⟨(some 17), (.len false (.t 16)), none, .full⟩, ⟨(some 18), (.mov (.c (.int .i64 0))), none, .full⟩])
 (.block 0 (.loop L213_0)))
 (.seq (.reg [⟨(some 51), (.mov (.t 0)), none, .full⟩, ⟨(some 52), (.mov (.t 2)), none, .full⟩, ⟨(some 53), (.mov (.t 1)), none, .full⟩, ⟨(some 54), (.len false (.t 53)), none, .full⟩, ⟨(some 55), (.bin false .add (.t 52) (.t 54)), none, .full⟩, ⟨(some 56), (.mov (.t 0)), none, .full⟩, ⟨(some 57), (.mov (.t 2)), none, .full⟩, ⟨(some 58), (.mov (.t 1)), none, .full⟩, ⟨(some 59), (.len false (.t 58)), none, .full⟩, ⟨(some 60), (.bin false .add (.t 57) (.t 59)), none, .full⟩, ⟨(some 61), (.iaddr 1 (.t 56) (.t 60)), none, .full⟩, ⟨(some 62), (.load 1 false (.t 61)), none, .full⟩, ⟨(some 63), (.mov (.t 9)), none, .full⟩, ⟨(some 64), (.conv .u32 (.t 63)), none, .full⟩, ⟨(some 65), (.mov (.t 10)), none, .full⟩, ⟨(some 66), (.call 217 0 [] [(.t 62), (.t 64), (.t 65)]), none, .full⟩, ⟨(some 50), (.mov (.t 66)), none, .full⟩, ⟨(some 67), (.extract (.t 50) 0), none, .full⟩, ⟨(some 68), (.extract (.t 50) 1), none, .full⟩, ⟨(some 69), (.iaddr 1 (.t 51) (.t 55)), none, .full⟩, ⟨none, (.store 1 (.t 69) (.t 67)), none, .full⟩, ⟨(some 10), (.mov (.t 68)), none, .full⟩])
 (.seq (.seq (.reg [⟨(some 70), (.mov (.t 10)), none, .full⟩, ⟨(some 71), (.bin false .eql (.t 70) (.c (.int .u32 0))), none, .full⟩])
 (.cond (.t 71)
 (.seq (.reg [⟨(some 72), (.mov (.t 3)), none, .full⟩, ⟨(some 73), (.conv .u32 (.t 72)), none, .full⟩, ⟨(some 8), (.mov (.t 73)), none, .full⟩])
 .ret)
 .skip))
 (.seq (.reg [⟨(some 13), (.mov (.c (.int .u32 0))), none, .full⟩])
 (.seq (.seq (.reg [⟨(some 74), (.mov (.t 1)), none, .full⟩, ⟨(some 75), (.len false (.t 74)), none, .full⟩, ⟨(some 76), (.mov (.c (.int .i64 0))), none, .full⟩])
 (.block 2 (.loop L213_1)))
 (.seq (.reg [⟨(some 99), (.mov (.t 0)), none, .full⟩, ⟨(some 100), (.mov (.t 2)), none, .full⟩, ⟨(some 101), (.mov (.t 1)), none, .full⟩, ⟨(some 102), (.len false (.t 101)), none, .full⟩, ⟨(some 103), (.bin false .add (.t 100) (.t 102)), none, .full⟩, ⟨(some 104), (.iaddr 1 (.t 99) (.t 103)), none, .full⟩, ⟨(some 105), (.load 1 false (.t 104)), none, .full⟩, ⟨(some 106), (.mov (.t 13)), none, .full⟩, ⟨(some 107), (.bin false .add (.t 105) (.t 106)), none, .full⟩, ⟨(some 108), (.iaddr 1 (.t 99) (.t 103)), none, .full⟩, ⟨none, (.store 1 (.t 108) (.t 107)), none, .full⟩])
 (.seq (.reg [⟨(some 109), (.mov (.t 3)), none, .full⟩, ⟨(some 110), (.bin false .sub (.t 109) (.c (.int .u64 1))), none, .full⟩, ⟨(some 111), (.conv .u32 (.t 110)), none, .full⟩, ⟨(some 8), (.mov (.t 111)), none, .full⟩])
 .ret)))))))))⟩
theorem ok213 : ∃ fn hh, Tryz.prog.funcs[213]? = some fn ∧ (∀ vals w, (callFunc 213 vals).run Tryz.prog w = .ok (.enter 213 vals) w) ∧ comp Tryz.prog hh fn = some F213 :=
  ⟨_, hintOf [], Tryz.func213, Tryz.call213, by kernel_rfl⟩
def L214_0 : TCode := (.seq (.seq (.reg [⟨(some 40), (.mov (.t 12)), none, .full⟩, ⟨(some 41), (.bin false .geq (.t 40) (.c (.int .u64 4294967296))), none, .full⟩, ⟨(some 42), (.mov (.t 41)), none, .full⟩, ⟨(some 43), (.mov (.t 12)), (some (42, false)), .full⟩, ⟨(some 44), (.mov (.t 10)), (some (42, false)), .full⟩, ⟨(some 45), (.bin false .mul (.t 43) (.t 44)), (some (42, false)), .full⟩, ⟨(some 46), (.mov (.t 13)), (some (42, false)), .full⟩, ⟨(some 47), (.bin false .shl (.t 46) (.c (.int .u64 32))), (some (42, false)), .full⟩, ⟨(some 48), (.mov (.t 2)), (some (42, false)), .full⟩, ⟨(some 49), (.conv .u64 (.t 48)), (some (42, false)), .full⟩, ⟨(some 50), (.bin false .or (.t 47) (.t 49)), (some (42, false)), .full⟩, ⟨(some 51), (.bin false .gtr (.t 45) (.t 50)), (some (42, false)), .full⟩, ⟨(some 52), (.pick (.t 42) (.c (.bool true)) (.t 51)), none, .full⟩])
 (.cond (.t 52)
 .skip
 (.exit 0)))
 (.block 1 (.seq (.reg [⟨(some 53), (.mov (.t 12)), none, .full⟩, ⟨(some 54), (.bin false .sub (.t 53) (.c (.int .u64 1))), none, .full⟩, ⟨(some 12), (.mov (.t 54)), none, .full⟩])
 (.seq (.reg [⟨(some 55), (.mov (.t 13)), none, .full⟩, ⟨(some 56), (.mov (.t 9)), none, .full⟩, ⟨(some 57), (.bin false .add (.t 55) (.t 56)), none, .full⟩, ⟨(some 13), (.mov (.t 57)), none, .full⟩])
 (.seq (.reg [⟨(some 58), (.mov (.t 13)), none, .full⟩, ⟨(some 59), (.bin false .geq (.t 58) (.c (.int .u64 4294967296))), none, .full⟩])
 (.cond (.t 59)
 (.exit 0)
 .skip))))))
def F214 : TFunc := ⟨4, 61, [(.tmp 8)],
 (.seq (.reg [⟨(some 8), (.mov (.c (.int .u64 0))), none, .full⟩])
 (.seq (.reg [⟨(some 14), (.mov (.t 3)), none, .none⟩, ⟨(some 15), (.mov (.t 3)), none, .none⟩, ⟨(some 16), (.len false (.t 15)), none, .none⟩, ⟨(some 17), (.bin false .sub (.t 16) (.c (.int .i64 1))), none, .none⟩, ⟨(some 18), (.iaddr 1 (.t 14) (.t 17)), none, .none⟩, ⟨(some 19), (.load 1 false (.t 18)), none, (.rd [])⟩, ⟨(some 20), (.conv .u64 (.t 19)), none, .none⟩, ⟨(some 21), (.mov (.t 3)), none, .none⟩, ⟨(some 22), (.mov (.t 3)), none, .none⟩, ⟨(some 23), (.len false (.t 22)), none, .none⟩, ⟨(some 24), (.bin false .sub (.t 23) (.c (.int .i64 2))), none, .none⟩, ⟨(some 25), (.iaddr 1 (.t 21) (.t 24)), none, .none⟩, ⟨(some 26), (.load 1 false (.t 25)), none, (.rd [])⟩, ⟨(some 27), (.conv .u64 (.t 26)), none, .none⟩, ⟨(some 9), (.mov (.t 20)), none, .none⟩, ⟨(some 10), (.mov (.t 27)), none, .none⟩])
 (.seq (.reg [⟨(some 28), (.mov (.t 0)), none, .full⟩, ⟨(some 29), (.conv .u64 (.t 28)), none, .full⟩, ⟨(some 30), (.bin false .shl (.t 29) (.c (.int .u64 32))), none, .full⟩, ⟨(some 31), (.mov (.t 1)), none, .full⟩, ⟨(some 32), (.conv .u64 (.t 31)), none, .full⟩, ⟨(some 33), (.bin false .or (.t 30) (.t 32)), none, .full⟩, ⟨(some 11), (.mov (.t 33)), none, .full⟩])
 (.seq (.reg [⟨(some 34), (.mov (.t 11)), none, .none⟩, ⟨(some 35), (.mov (.t 9)), none, .none⟩, ⟨(some 36), (.bin false .quo (.t 34) (.t 35)), none, .none⟩, ⟨(some 37), (.mov (.t 11)), none, .none⟩, ⟨(some 38), (.mov (.t 9)), none, .none⟩, ⟨(some 39), (.bin false .rem (.t 37) (.t 38)), none, .none⟩, ⟨(some 12), (.mov (.t 36)), none, .none⟩, ⟨(some 13), (.mov (.t 39)), none, .none⟩])
 (.seq (.block 0 (.loop L214_0))
 (.seq (.reg [⟨(some 60), (.mov (.t 12)), none, .full⟩, ⟨(some 8), (.mov (.t 60)), none, .full⟩])
 .ret))))))⟩
theorem ok214 : ∃ fn hh, Tryz.prog.funcs[214]? = some fn ∧ (∀ vals w, (callFunc 214 vals).run Tryz.prog w = .ok (.enter 214 vals) w) ∧ comp Tryz.prog hh fn = some F214 :=
  ⟨_, hintOf [], Tryz.func214, Tryz.call214, by kernel_rfl⟩
def L215_0 : TCode := (.seq (.reg [⟨(some 9), (.bin false .lss (.t 8) (.t 7)), none, .full⟩])
 (.seq (.cond (.t 9)
 .skip
 (.exit 0))
 (.seq (.block 1 (.seq (.reg [⟨(some 10), (.mov (.t 8)), none, .full⟩, ⟨(some 4), (.mov (.t 10)), none, .full⟩])
 (.seq (.reg [⟨(some 11), (.mov (.t 0)), none, .full⟩, ⟨(some 12), (.mov (.t 4)), none, .full⟩, ⟨(some 13), (.iaddr 1 (.t 11) (.t 12)), none, .full⟩, ⟨(some 14), (.load 1 false (.t 13)), none, .full⟩, ⟨(some 15), (.conv .u64 (.t 14)), none, .full⟩, ⟨(some 5), (.mov (.t 15)), none, .full⟩])
 (.seq (.seq (.reg [⟨(some 16), (.mov (.t 4)), none, .full⟩, ⟨(some 17), (.bin false .add (.t 16) (.c (.int .i64 1))), none, .full⟩, ⟨(some 18), (.mov (.t 0)), none, .full⟩, ⟨(some 19), (.len false (.t 18)), none, .full⟩, ⟨(some 20), (.bin false .lss (.t 17) (.t 19)), none, .full⟩])
 (.cond (.t 20)
 (.reg [⟨(some 21), (.mov (.t 5)), none, .full⟩, ⟨(some 22), (.mov (.t 0)), none, .full⟩, ⟨(some 23), (.mov (.t 4)), none, .full⟩, ⟨(some 24), (.bin false .add (.t 23) (.c (.int .i64 1))), none, .full⟩, ⟨(some 25), (.iaddr 1 (.t 22) (.t 24)), none, .full⟩, ⟨(some 26), (.load 1 false (.t 25)), none, .full⟩, ⟨(some 27), (.conv .u64 (.t 26)), none, .full⟩, ⟨(some 28), (.bin false .shl (.t 27) (.c (.int .u64 32))), none, .full⟩, ⟨(some 29), (.bin false .or (.t 21) (.t 28)), none, .full⟩, ⟨(some 5), (.mov (.t 29)), none, .full⟩])
 .skip))
 (.reg [⟨(some 30), (.mov (.t 0)), none, .full⟩, ⟨(some 31), (.mov (.t 4)), none, .full⟩, ⟨(some 32), (.mov (.t 5)), none, .full⟩, ⟨(some 33), (.mov (.t 1)), none, .full⟩, ⟨(some 34), (.bin false .shr (.t 32) (.t 33)), none, .full⟩, ⟨(some 35), (.conv .u32 (.t 34)), none, .full⟩, ⟨(some 36), (.iaddr 1 (.t 30) (.t 31)), none, .full⟩, ⟨none, (.store 1 (.t 36) (.t 35)), none, .full⟩])))))
 (.reg [⟨(some 37), (.bin false .add (.t 8) (.c (.int .i64 1))), none, .full⟩, ⟨(some 8), (.mov (.t 37)), none, .full⟩]))))
def F215 : TFunc := ⟨2, 38, [],
 (.seq (.reg [⟨(some 6), (.mov (.t 0)), none, .full⟩, ⟨(some 7), (.len false (.t 6)), none, .full⟩, ⟨(some 8), (.mov (.c (.int .i64 0))), none, .full⟩])
 (.block 0 (.loop L215_0)))⟩
theorem ok215 : ∃ fn hh, Tryz.prog.funcs[215]? = some fn ∧ (∀ vals w, (callFunc 215 vals).run Tryz.prog w = .ok (.enter 215 vals) w) ∧ comp Tryz.prog hh fn = some F215 :=
  ⟨_, hintOf [], Tryz.func215, Tryz.call215, by kernel_rfl⟩
def F216 : TFunc := ⟨3, 22, [(.tmp 6), (.tmp 7)],
 (.seq (.reg [⟨(some 6), (.mov (.c (.int .u32 0))), none, .full⟩, ⟨(some 7), (.mov (.c (.int .u32 0))), none, .full⟩])
 (.seq (.reg [⟨(some 9), (.mov (.t 0)), none, .full⟩, ⟨(some 10), (.conv .u64 (.t 9)), none, .full⟩, ⟨(some 11), (.mov (.t 1)), none, .full⟩, ⟨(some 12), (.conv .u64 (.t 11)), none, .full⟩, ⟨(some 13), (.bin false .add (.t 10) (.t 12)), none, .full⟩, ⟨(some 14), (.mov (.t 2)), none, .full⟩, ⟨(some 15), (.conv .u64 (.t 14)), none, .full⟩, ⟨(some 16), (.bin false .add (.t 13) (.t 15)), none, .full⟩, ⟨(some 8), (.mov (.t 16)), none, .full⟩])
 (.seq (.reg [⟨(some 17), (.mov (.t 8)), none, .full⟩, ⟨(some 18), (.conv .u32 (.t 17)), none, .full⟩, ⟨(some 6), (.mov (.t 18)), none, .full⟩])
 (.seq (.reg [⟨(some 19), (.mov (.t 8)), none, .full⟩, ⟨(some 20), (.bin false .shr (.t 19) (.c (.int .u64 32))), none, .full⟩, ⟨(some 21), (.conv .u32 (.t 20)), none, .full⟩, ⟨(some 7), (.mov (.t 21)), none, .full⟩])
 .ret))))⟩
theorem ok216 : ∃ fn hh, Tryz.prog.funcs[216]? = some fn ∧ (∀ vals w, (callFunc 216 vals).run Tryz.prog w = .ok (.enter 216 vals) w) ∧ comp Tryz.prog hh fn = some F216 :=
  ⟨_, hintOf [], Tryz.func216, Tryz.call216, by kernel_rfl⟩
def F217 : TFunc := ⟨3, 25, [(.tmp 6), (.tmp 7)],
 (.seq (.reg [⟨(some 6), (.mov (.c (.int .u32 0))), none, .full⟩, ⟨(some 7), (.mov (.c (.int .u32 0))), none, .full⟩])
 (.seq (.reg [⟨(some 8), (.mov (.t 0)), none, .full⟩, ⟨(some 9), (.mov (.t 1)), none, .full⟩, ⟨(some 10), (.bin false .sub (.t 8) (.t 9)), none, .full⟩, ⟨(some 11), (.mov (.t 2)), none, .full⟩, ⟨(some 12), (.bin false .sub (.t 10) (.t 11)), none, .full⟩, ⟨(some 6), (.mov (.t 12)), none, .full⟩])
 (.seq (.reg [⟨(some 13), (.mov (.t 0)), none, .full⟩, ⟨(some 14), (.un .xor (.t 13)), none, .full⟩, ⟨(some 15), (.mov (.t 1)), none, .full⟩, ⟨(some 16), (.bin false .and (.t 14) (.t 15)), none, .full⟩, ⟨(some 17), (.mov (.t 0)), none, .full⟩, ⟨(some 18), (.mov (.t 1)), none, .full⟩, ⟨(some 19), (.bin false .xor (.t 17) (.t 18)), none, .full⟩, ⟨(some 20), (.un .xor (.t 19)), none, .full⟩, ⟨(some 21), (.mov (.t 6)), none, .full⟩, ⟨(some 22), (.bin false .and (.t 20) (.t 21)), none, .full⟩, ⟨(some 23), (.bin false .or (.t 16) (.t 22)), none, .full⟩, ⟨(some 24), (.bin false .shr (.t 23) (.c (.int .u64 31))), none, .full⟩, ⟨(some 7), (.mov (.t 24)), none, .full⟩])
 .ret)))⟩
theorem ok217 : ∃ fn hh, Tryz.prog.funcs[217]? = some fn ∧ (∀ vals w, (callFunc 217 vals).run Tryz.prog w = .ok (.enter 217 vals) w) ∧ comp Tryz.prog hh fn = some F217 :=
  ⟨_, hintOf [], Tryz.func217, Tryz.call217, by kernel_rfl⟩
end Go.TM.Fn
end
section
set_option maxRecDepth 20000
namespace Go.TM.Fn
open Go.Proofs
def tabL : List (Nat × TFunc) := [(4, F4), (14, F14), (15, F15), (16, F16), (17, F17), (18, F18), (20, F20), (21, F21), (22, F22), (23, F23), (24, F24), (25, F25), (26, F26), (27, F27), (28, F28), (39, F39), (41, F41), (51, F51), (53, F53), (54, F54), (58, F58), (59, F59), (60, F60), (61, F61), (62, F62), (63, F63), (64, F64), (65, F65), (66, F66), (67, F67), (68, F68), (69, F69), (70, F70), (71, F71), (74, F74), (75, F75), (76, F76), (77, F77), (78, F78), (79, F79), (80, F80), (81, F81), (82, F82), (83, F83), (84, F84), (85, F85), (86, F86), (87, F87), (92, F92), (94, F94), (96, F96), (98, F98), (99, F99), (102, F102), (114, F114), (115, F115), (116, F116), (117, F117), (118, F118), (119, F119), (120, F120), (121, F121), (122, F122), (123, F123), (124, F124), (125, F125), (126, F126), (127, F127), (128, F128), (129, F129), (130, F130), (131, F131), (132, F132), (133, F133), (134, F134), (135, F135), (136, F136), (137, F137), (141, F141), (142, F142), (144, F144), (145, F145), (146, F146), (147, F147), (148, F148), (163, F163), (164, F164), (165, F165), (166, F166), (167, F167), (168, F168), (169, F169), (170, F170), (171, F171), (172, F172), (173, F173), (174, F174), (175, F175), (193, F193), (194, F194), (195, F195), (196, F196), (197, F197), (198, F198), (199, F199), (210, F210), (211, F211), (212, F212), (213, F213), (214, F214), (215, F215), (216, F216), (217, F217)]
def mach : Mach := { tab := fun f => (tabL.find? (·.1 == f)).map (·.2), ext := fun _ _ => none }
theorem tabL_ok : ∀ p ∈ tabL, ∃ fn hh, Tryz.prog.funcs[p.1]? = some fn ∧ (∀ vals w, (callFunc p.1 vals).run Tryz.prog w = .ok (.enter p.1 vals) w) ∧ comp Tryz.prog hh fn = some p.2 := by
  unfold tabL
  exact List.forall_mem_cons.2 ⟨ok4, List.forall_mem_cons.2 ⟨ok14, List.forall_mem_cons.2 ⟨ok15, List.forall_mem_cons.2 ⟨ok16, List.forall_mem_cons.2 ⟨ok17, List.forall_mem_cons.2 ⟨ok18, List.forall_mem_cons.2 ⟨ok20, List.forall_mem_cons.2 ⟨ok21, List.forall_mem_cons.2 ⟨ok22, List.forall_mem_cons.2 ⟨ok23, List.forall_mem_cons.2 ⟨ok24, List.forall_mem_cons.2 ⟨ok25, List.forall_mem_cons.2 ⟨ok26, List.forall_mem_cons.2 ⟨ok27, List.forall_mem_cons.2 ⟨ok28, List.forall_mem_cons.2 ⟨ok39, List.forall_mem_cons.2 ⟨ok41, List.forall_mem_cons.2 ⟨ok51, List.forall_mem_cons.2 ⟨ok53, List.forall_mem_cons.2 ⟨ok54, List.forall_mem_cons.2 ⟨ok58, List.forall_mem_cons.2 ⟨ok59, List.forall_mem_cons.2 ⟨ok60, List.forall_mem_cons.2 ⟨ok61, List.forall_mem_cons.2 ⟨ok62, List.forall_mem_cons.2 ⟨ok63, List.forall_mem_cons.2 ⟨ok64, List.forall_mem_cons.2 ⟨ok65, List.forall_mem_cons.2 ⟨ok66, List.forall_mem_cons.2 ⟨ok67, List.forall_mem_cons.2 ⟨ok68, List.forall_mem_cons.2 ⟨ok69, List.forall_mem_cons.2 ⟨ok70, List.forall_mem_cons.2 ⟨ok71, List.forall_mem_cons.2 ⟨ok74, List.forall_mem_cons.2 ⟨ok75, List.forall_mem_cons.2 ⟨ok76, List.forall_mem_cons.2 ⟨ok77, List.forall_mem_cons.2 ⟨ok78, List.forall_mem_cons.2 ⟨ok79, List.forall_mem_cons.2 ⟨ok80, List.forall_mem_cons.2 ⟨ok81, List.forall_mem_cons.2 ⟨ok82, List.forall_mem_cons.2 ⟨ok83, List.forall_mem_cons.2 ⟨ok84, List.forall_mem_cons.2 ⟨ok85, List.forall_mem_cons.2 ⟨ok86, List.forall_mem_cons.2 ⟨ok87, List.forall_mem_cons.2 ⟨ok92, List.forall_mem_cons.2 ⟨ok94, List.forall_mem_cons.2 ⟨ok96, List.forall_mem_cons.2 ⟨ok98, List.forall_mem_cons.2 ⟨ok99, List.forall_mem_cons.2 ⟨ok102, List.forall_mem_cons.2 ⟨ok114, List.forall_mem_cons.2 ⟨ok115, List.forall_mem_cons.2 ⟨ok116, List.forall_mem_cons.2 ⟨ok117, List.forall_mem_cons.2 ⟨ok118, List.forall_mem_cons.2 ⟨ok119, List.forall_mem_cons.2 ⟨ok120, List.forall_mem_cons.2 ⟨ok121, List.forall_mem_cons.2 ⟨ok122, List.forall_mem_cons.2 ⟨ok123, List.forall_mem_cons.2 ⟨ok124, List.forall_mem_cons.2 ⟨ok125, List.forall_mem_cons.2 ⟨ok126, List.forall_mem_cons.2 ⟨ok127, List.forall_mem_cons.2 ⟨ok128, List.forall_mem_cons.2 ⟨ok129, List.forall_mem_cons.2 ⟨ok130, List.forall_mem_cons.2 ⟨ok131, List.forall_mem_cons.2 ⟨ok132, List.forall_mem_cons.2 ⟨ok133, List.forall_mem_cons.2 ⟨ok134, List.forall_mem_cons.2 ⟨ok135, List.forall_mem_cons.2 ⟨ok136, List.forall_mem_cons.2 ⟨ok137, List.forall_mem_cons.2 ⟨ok141, List.forall_mem_cons.2 ⟨ok142, List.forall_mem_cons.2 ⟨ok144, List.forall_mem_cons.2 ⟨ok145, List.forall_mem_cons.2 ⟨ok146, List.forall_mem_cons.2 ⟨ok147, List.forall_mem_cons.2 ⟨ok148, List.forall_mem_cons.2 ⟨ok163, List.forall_mem_cons.2 ⟨ok164, List.forall_mem_cons.2 ⟨ok165, List.forall_mem_cons.2 ⟨ok166, List.forall_mem_cons.2 ⟨ok167, List.forall_mem_cons.2 ⟨ok168, List.forall_mem_cons.2 ⟨ok169, List.forall_mem_cons.2 ⟨ok170, List.forall_mem_cons.2 ⟨ok171, List.forall_mem_cons.2 ⟨ok172, List.forall_mem_cons.2 ⟨ok173, List.forall_mem_cons.2 ⟨ok174, List.forall_mem_cons.2 ⟨ok175, List.forall_mem_cons.2 ⟨ok193, List.forall_mem_cons.2 ⟨ok194, List.forall_mem_cons.2 ⟨ok195, List.forall_mem_cons.2 ⟨ok196, List.forall_mem_cons.2 ⟨ok197, List.forall_mem_cons.2 ⟨ok198, List.forall_mem_cons.2 ⟨ok199, List.forall_mem_cons.2 ⟨ok210, List.forall_mem_cons.2 ⟨ok211, List.forall_mem_cons.2 ⟨ok212, List.forall_mem_cons.2 ⟨ok213, List.forall_mem_cons.2 ⟨ok214, List.forall_mem_cons.2 ⟨ok215, List.forall_mem_cons.2 ⟨ok216, List.forall_mem_cons.2 ⟨ok217, (fun _ h => by cases h)⟩⟩⟩⟩⟩⟩⟩⟩⟩⟩⟩⟩⟩⟩⟩⟩⟩⟩⟩⟩⟩⟩⟩⟩⟩⟩⟩⟩⟩⟩⟩⟩⟩⟩⟩⟩⟩⟩⟩⟩⟩⟩⟩⟩⟩⟩⟩⟩⟩⟩⟩⟩⟩⟩⟩⟩⟩⟩⟩⟩⟩⟩⟩⟩⟩⟩⟩⟩⟩⟩⟩⟩⟩⟩⟩⟩⟩⟩⟩⟩⟩⟩⟩⟩⟩⟩⟩⟩⟩⟩⟩⟩⟩⟩⟩⟩⟩⟩⟩⟩⟩⟩⟩⟩⟩⟩⟩⟩⟩⟩⟩⟩⟩
theorem mach_ok : mach.Ok Tryz.prog where
  mix := by kernel_rfl
  tab := fun f F h => by
    simp only [mach, Option.map_eq_some_iff] at h
    obtain ⟨p, hp, rfl⟩ := h
    have h1 := List.find?_some hp
    have h2 := List.mem_of_find?_eq_some hp
    simp only [beq_iff_eq] at h1
    subst h1
    exact tabL_ok p h2
  ext := fun _ _ _ _ h => by cases h
theorem tab4 : mach.tab 4 = some F4 := rfl
theorem tab14 : mach.tab 14 = some F14 := rfl
theorem tab15 : mach.tab 15 = some F15 := rfl
theorem tab16 : mach.tab 16 = some F16 := rfl
theorem tab17 : mach.tab 17 = some F17 := rfl
theorem tab18 : mach.tab 18 = some F18 := rfl
theorem tab20 : mach.tab 20 = some F20 := rfl
theorem tab21 : mach.tab 21 = some F21 := rfl
theorem tab22 : mach.tab 22 = some F22 := rfl
theorem tab23 : mach.tab 23 = some F23 := rfl
theorem tab24 : mach.tab 24 = some F24 := rfl
theorem tab25 : mach.tab 25 = some F25 := rfl
theorem tab26 : mach.tab 26 = some F26 := rfl
theorem tab27 : mach.tab 27 = some F27 := rfl
theorem tab28 : mach.tab 28 = some F28 := rfl
theorem tab39 : mach.tab 39 = some F39 := rfl
theorem tab41 : mach.tab 41 = some F41 := rfl
theorem tab51 : mach.tab 51 = some F51 := rfl
theorem tab53 : mach.tab 53 = some F53 := rfl
theorem tab54 : mach.tab 54 = some F54 := rfl
theorem tab58 : mach.tab 58 = some F58 := rfl
theorem tab59 : mach.tab 59 = some F59 := rfl
theorem tab60 : mach.tab 60 = some F60 := rfl
theorem tab61 : mach.tab 61 = some F61 := rfl
theorem tab62 : mach.tab 62 = some F62 := rfl
theorem tab63 : mach.tab 63 = some F63 := rfl
theorem tab64 : mach.tab 64 = some F64 := rfl
theorem tab65 : mach.tab 65 = some F65 := rfl
theorem tab66 : mach.tab 66 = some F66 := rfl
theorem tab67 : mach.tab 67 = some F67 := rfl
theorem tab68 : mach.tab 68 = some F68 := rfl
theorem tab69 : mach.tab 69 = some F69 := rfl
theorem tab70 : mach.tab 70 = some F70 := rfl
theorem tab71 : mach.tab 71 = some F71 := rfl
theorem tab74 : mach.tab 74 = some F74 := rfl
theorem tab75 : mach.tab 75 = some F75 := rfl
theorem tab76 : mach.tab 76 = some F76 := rfl
theorem tab77 : mach.tab 77 = some F77 := rfl
theorem tab78 : mach.tab 78 = some F78 := rfl
theorem tab79 : mach.tab 79 = some F79 := rfl
theorem tab80 : mach.tab 80 = some F80 := rfl
theorem tab81 : mach.tab 81 = some F81 := rfl
theorem tab82 : mach.tab 82 = some F82 := rfl
theorem tab83 : mach.tab 83 = some F83 := rfl
theorem tab84 : mach.tab 84 = some F84 := rfl
theorem tab85 : mach.tab 85 = some F85 := rfl
theorem tab86 : mach.tab 86 = some F86 := rfl
theorem tab87 : mach.tab 87 = some F87 := rfl
theorem tab92 : mach.tab 92 = some F92 := rfl
theorem tab94 : mach.tab 94 = some F94 := rfl
theorem tab96 : mach.tab 96 = some F96 := rfl
theorem tab98 : mach.tab 98 = some F98 := rfl
theorem tab99 : mach.tab 99 = some F99 := rfl
theorem tab102 : mach.tab 102 = some F102 := rfl
theorem tab114 : mach.tab 114 = some F114 := rfl
theorem tab115 : mach.tab 115 = some F115 := rfl
theorem tab116 : mach.tab 116 = some F116 := rfl
theorem tab117 : mach.tab 117 = some F117 := rfl
theorem tab118 : mach.tab 118 = some F118 := rfl
theorem tab119 : mach.tab 119 = some F119 := rfl
theorem tab120 : mach.tab 120 = some F120 := rfl
theorem tab121 : mach.tab 121 = some F121 := rfl
theorem tab122 : mach.tab 122 = some F122 := rfl
theorem tab123 : mach.tab 123 = some F123 := rfl
theorem tab124 : mach.tab 124 = some F124 := rfl
theorem tab125 : mach.tab 125 = some F125 := rfl
theorem tab126 : mach.tab 126 = some F126 := rfl
theorem tab127 : mach.tab 127 = some F127 := rfl
theorem tab128 : mach.tab 128 = some F128 := rfl
theorem tab129 : mach.tab 129 = some F129 := rfl
theorem tab130 : mach.tab 130 = some F130 := rfl
theorem tab131 : mach.tab 131 = some F131 := rfl
theorem tab132 : mach.tab 132 = some F132 := rfl
theorem tab133 : mach.tab 133 = some F133 := rfl
theorem tab134 : mach.tab 134 = some F134 := rfl
theorem tab135 : mach.tab 135 = some F135 := rfl
theorem tab136 : mach.tab 136 = some F136 := rfl
theorem tab137 : mach.tab 137 = some F137 := rfl
theorem tab141 : mach.tab 141 = some F141 := rfl
theorem tab142 : mach.tab 142 = some F142 := rfl
theorem tab144 : mach.tab 144 = some F144 := rfl
theorem tab145 : mach.tab 145 = some F145 := rfl
theorem tab146 : mach.tab 146 = some F146 := rfl
theorem tab147 : mach.tab 147 = some F147 := rfl
theorem tab148 : mach.tab 148 = some F148 := rfl
theorem tab163 : mach.tab 163 = some F163 := rfl
theorem tab164 : mach.tab 164 = some F164 := rfl
theorem tab165 : mach.tab 165 = some F165 := rfl
theorem tab166 : mach.tab 166 = some F166 := rfl
theorem tab167 : mach.tab 167 = some F167 := rfl
theorem tab168 : mach.tab 168 = some F168 := rfl
theorem tab169 : mach.tab 169 = some F169 := rfl
theorem tab170 : mach.tab 170 = some F170 := rfl
theorem tab171 : mach.tab 171 = some F171 := rfl
theorem tab172 : mach.tab 172 = some F172 := rfl
theorem tab173 : mach.tab 173 = some F173 := rfl
theorem tab174 : mach.tab 174 = some F174 := rfl
theorem tab175 : mach.tab 175 = some F175 := rfl
theorem tab193 : mach.tab 193 = some F193 := rfl
theorem tab194 : mach.tab 194 = some F194 := rfl
theorem tab195 : mach.tab 195 = some F195 := rfl
theorem tab196 : mach.tab 196 = some F196 := rfl
theorem tab197 : mach.tab 197 = some F197 := rfl
theorem tab198 : mach.tab 198 = some F198 := rfl
theorem tab199 : mach.tab 199 = some F199 := rfl
theorem tab210 : mach.tab 210 = some F210 := rfl
theorem tab211 : mach.tab 211 = some F211 := rfl
theorem tab212 : mach.tab 212 = some F212 := rfl
theorem tab213 : mach.tab 213 = some F213 := rfl
theorem tab214 : mach.tab 214 = some F214 := rfl
theorem tab215 : mach.tab 215 = some F215 := rfl
theorem tab216 : mach.tab 216 = some F216 := rfl
theorem tab217 : mach.tab 217 = some F217 := rfl
end Go.TM.Fn
end
