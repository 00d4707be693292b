/- The functions in the machine's form, each tied to the loaded program by the kernel; the table of all. Printed by program. No condition. -/
import Derived.Test.YtjjaeedhbnchlaaS3A1
import Derived.Test.YtjjaeedhbnchlaaProg
import Derived.KernelRfl
import Derived.Test.YtjjaeedhbnchlaaS3A2
import Derived.Test.YtjjaeedhbnchlaaS3B1
section
namespace Go.TM.Fn
open Go.Proofs
def L96_0 : TCode := (.seq (.reg [⟨(some 16), (.bin false .lss (.t 15) (.t 14)), none, .full⟩])
 (.seq (.cond (.t 16)
 .skip
 (.exit 0))
 (.seq (.block 1 (.seq (.reg [⟨(some 17), (.mov (.t 15)), none, .full⟩, ⟨(some 18), (.iaddr 1 (.t 13) (.t 15)), none, .full⟩, ⟨(some 19), (.load 1 false (.t 18)), none, .full⟩, ⟨(some 6), (.mov (.t 17)), none, .full⟩, ⟨(some 7), (.mov (.t 19)), none, .full⟩])
 (.seq (.reg [⟨(some 20), (.mov (.t 7)), none, .full⟩, ⟨(some 21), (.conv .u64 (.t 20)), none, .full⟩, ⟨(some 22), (.mov (.t 1)), none, .full⟩, ⟨(some 23), (.bin false .shl (.t 21) (.t 22)), none, .full⟩, ⟨(some 8), (.mov (.t 23)), none, .full⟩])
 (.seq (.reg [⟨(some 24), (.mov (.t 5)), none, .full⟩, ⟨(some 25), (.mov (.t 6)), none, .full⟩, ⟨(some 26), (.iaddr 1 (.t 24) (.t 25)), none, .full⟩, ⟨(some 27), (.load 1 false (.t 26)), none, .full⟩, ⟨(some 28), (.mov (.t 8)), none, .full⟩, ⟨(some 29), (.conv .u32 (.t 28)), none, .full⟩, ⟨(some 30), (.bin false .or (.t 27) (.t 29)), none, .full⟩, ⟨(some 31), (.iaddr 1 (.t 24) (.t 25)), none, .full⟩, ⟨none, (.store 1 (.t 31) (.t 30)), none, .full⟩])
 (.reg [⟨(some 32), (.mov (.t 5)), none, .full⟩, ⟨(some 33), (.mov (.t 6)), none, .full⟩, ⟨(some 34), (.bin false .add (.t 33) (.c (.int .i64 1))), none, .full⟩, ⟨(some 35), (.mov (.t 8)), none, .full⟩, ⟨(some 36), (.bin false .shr (.t 35) (.c (.int .u64 32))), none, .full⟩, ⟨(some 37), (.conv .u32 (.t 36)), none, .full⟩, ⟨(some 38), (.iaddr 1 (.t 32) (.t 34)), none, .full⟩, ⟨none, (.store 1 (.t 38) (.t 37)), none, .full⟩])))))
 (.reg [⟨(some 39), (.bin false .add (.t 15) (.c (.int .i64 1))), none, .full⟩, ⟨(some 15), (.mov (.t 39)), none, .full⟩]))))
def F96 : TFunc := ⟨2, 41, [(.tmp 4)],
 (.seq (.reg [⟨(some 4), (.mov (.c .nils)), none, .full⟩])
 (.seq (.reg [⟨(some 9), (.mov (.t 0)), none, .full⟩, ⟨(some 10), (.len false (.t 9)), none, .full⟩, ⟨(some 11), (.bin false .add (.t 10) (.c (.int .i64 1))), none, .full⟩, ⟨(some 12), (.mk 1 [(.int .u32 0)] (.t 11)), none, .full⟩, ⟨(some 5), (.mov (.t 12)), none, .full⟩])
 (.seq (.seq (.reg [⟨(some 13), (.mov (.t 0)), none, .full⟩, ⟨(some 14), (.len false (.t 13)), none, .full⟩, ⟨(some 15), (.mov (.c (.int .i64 0))), none, .full⟩])
 (.block 0 (.loop L96_0)))
 (.seq (.reg [⟨(some 40), (.mov (.t 5)), none, .full⟩, ⟨(some 4), (.mov (.t 40)), none, .full⟩])
 .ret))))⟩
theorem ok96 : ∃ fn hh, Try.prog.funcs[96]? = some fn ∧ (∀ vals w, (callFunc 96 vals).run Try.prog w = .ok (.enter 96 vals) w) ∧ comp Try.prog hh fn = some F96 :=
  ⟨_, hintOf [], Try.func96, Try.call96, by kernel_rfl⟩
def L97_0 : TCode := (.seq (.reg [⟨(some 19), (.bin false .lss (.t 18) (.t 17)), none, .full⟩])
 (.seq (.cond (.t 19)
 .skip
 (.exit 0))
 (.seq (.block 1 (.seq (.reg [⟨(some 20), (.mov (.t 18)), none, .full⟩, ⟨(some 21), (.iaddr 1 (.t 16) (.t 18)), none, .full⟩, ⟨(some 22), (.load 1 false (.t 21)), none, .full⟩, ⟨(some 11), (.mov (.t 20)), none, .full⟩, ⟨(some 12), (.mov (.t 22)), none, .full⟩])
 (.seq (.reg [⟨(some 23), (.mov (.t 9)), none, .full⟩, ⟨(some 24), (.mov (.t 3)), none, .full⟩, ⟨(some 25), (.mov (.t 12)), none, .full⟩, ⟨(some 26), (.conv .u64 (.t 25)), none, .full⟩, ⟨(some 27), (.bin false .mul (.t 24) (.t 26)), none, .full⟩, ⟨(some 28), (.bin false .add (.t 23) (.t 27)), none, .full⟩, ⟨(some 9), (.mov (.t 28)), none, .full⟩])
 (.seq (.reg [⟨(some 30), (.mov (.t 0)), none, .full⟩, ⟨(some 31), (.mov (.t 2)), none, .full⟩, ⟨(some 32), (.mov (.t 11)), none, .full⟩, ⟨(some 33), (.bin false .add (.t 31) (.t 32)), none, .full⟩, ⟨(some 34), (.mov (.t 0)), none, .full⟩, ⟨(some 35), (.mov (.t 2)), none, .full⟩, ⟨(some 36), (.mov (.t 11)), none, .full⟩, ⟨(some 37), (.bin false .add (.t 35) (.t 36)), none, .full⟩, ⟨(some 38), (.iaddr 1 (.t 34) (.t 37)), none, .full⟩, ⟨(some 39), (.load 1 false (.t 38)), none, .full⟩, ⟨(some 40), (.mov (.t 9)), none, .full⟩, ⟨(some 41), (.conv .u32 (.t 40)), none, .full⟩, ⟨(some 42), (.mov (.t 10)), none, .full⟩, ⟨(some 43), (.call 101 0 [] [(.t 39), (.t 41), (.t 42)]), none, .full⟩, ⟨(some 29), (.mov (.t 43)), none, .full⟩, ⟨(some 44), (.extract (.t 29) 0), none, .full⟩, ⟨(some 45), (.extract (.t 29) 1), none, .full⟩, ⟨(some 46), (.iaddr 1 (.t 30) (.t 33)), none, .full⟩, ⟨none, (.store 1 (.t 46) (.t 44)), none, .full⟩, ⟨(some 10), (.mov (.t 45)), none, .full⟩])
 (.reg [⟨(some 47), (.mov (.t 9)), none, .full⟩, ⟨(some 48), (.bin false .shr (.t 47) (.c (.int .u64 32))), none, .full⟩, ⟨(some 9), (.mov (.t 48)), none, .full⟩])))))
 (.reg [⟨(some 49), (.bin false .add (.t 18) (.c (.int .i64 1))), none, .full⟩, ⟨(some 18), (.mov (.t 49)), none, .full⟩]))))
def L97_1 : TCode := (.seq (.reg [⟨(some 77), (.bin false .lss (.t 76) (.t 75)), none, .full⟩])
 (.seq (.cond (.t 77)
 .skip
 (.exit 2))
 (.seq (.block 3 (.seq (.reg [⟨(some 78), (.mov (.t 76)), none, .full⟩, ⟨(some 79), (.iaddr 1 (.t 74) (.t 76)), none, .full⟩, ⟨(some 80), (.load 1 false (.t 79)), none, .full⟩, ⟨(some 14), (.mov (.t 78)), none, .full⟩, ⟨(some 15), (.mov (.t 80)), none, .full⟩])
 (.reg [⟨(some 82), (.mov (.t 0)), none, .full⟩, ⟨(some 83), (.mov (.t 2)), none, .full⟩, ⟨(some 84), (.mov (.t 14)), none, .full⟩, ⟨(some 85), (.bin false .add (.t 83) (.t 84)), none, .full⟩, ⟨(some 86), (.mov (.t 0)), none, .full⟩, ⟨(some 87), (.mov (.t 2)), none, .full⟩, ⟨(some 88), (.mov (.t 14)), none, .full⟩, ⟨(some 89), (.bin false .add (.t 87) (.t 88)), none, .full⟩, ⟨(some 90), (.iaddr 1 (.t 86) (.t 89)), none, .full⟩, ⟨(some 91), (.load 1 false (.t 90)), none, .full⟩, ⟨(some 92), (.mov (.t 15)), none, .full⟩, ⟨(some 93), (.mov (.t 13)), none, .full⟩, ⟨(some 94), (.call 100 0 [] [(.t 91), (.t 92), (.t 93)]), none, .full⟩, ⟨(some 81), (.mov (.t 94)), none, .full⟩, ⟨(some 95), (.extract (.t 81) 0), none, .full⟩, ⟨(some 96), (.extract (.t 81) 1), none, .full⟩, ⟨(some 97), (.iaddr 1 (.t 82) (.t 85)), none, .full⟩, ⟨none, (.store 1 (.t 97) (.t 95)), none, .full⟩, ⟨(some 13), (.mov (.t 96)), none, .full⟩])))
 (.reg [⟨(some 98), (.bin false .add (.t 76) (.c (.int .i64 1))), none, .full⟩, ⟨(some 76), (.mov (.t 98)), none, .full⟩]))))
def F97 : TFunc := ⟨4, 112, [(.tmp 8)],
 (.seq (.reg [⟨(some 8), (.mov (.c (.int .u32 0))), none, .full⟩])
 (.seq (.reg [⟨(some 9), (.mov (.c (.int .u64 0))), none, .full⟩, ⟨(some 10), (.mov (.c (.int .u32 0))), none, .full⟩])
 (.seq (.seq (.reg [⟨(some 16), (.mov (.t 1)), none, .full⟩, ⟨(some 17), (.len false (.t 16)), none, .full⟩, ⟨(some 18), (.mov (.c (.int .i64 0))), none, .full⟩])
 (.block 0 (.loop L97_0)))
 (.seq (.reg [⟨(some 51), (.mov (.t 0)), none, .full⟩, ⟨(some 52), (.mov (.t 2)), none, .full⟩, ⟨(some 53), (.mov (.t 1)), none, .full⟩, ⟨(some 54), (.len false (.t 53)), none, .full⟩, ⟨(some 55), (.bin false .add (.t 52) (.t 54)), none, .full⟩, ⟨(some 56), (.mov (.t 0)), none, .full⟩, ⟨(some 57), (.mov (.t 2)), none, .full⟩, ⟨(some 58), (.mov (.t 1)), none, .full⟩, ⟨(some 59), (.len false (.t 58)), none, .full⟩, ⟨(some 60), (.bin false .add (.t 57) (.t 59)), none, .full⟩, ⟨(some 61), (.iaddr 1 (.t 56) (.t 60)), none, .full⟩, ⟨(some 62), (.load 1 false (.t 61)), none, .full⟩, ⟨(some 63), (.mov (.t 9)), none, .full⟩, ⟨(some 64), (.conv .u32 (.t 63)), none, .full⟩, ⟨(some 65), (.mov (.t 10)), none, .full⟩, ⟨(some 66), (.call 101 0 [] [(.t 62), (.t 64), (.t 65)]), none, .full⟩, ⟨(some 50), (.mov (.t 66)), none, .full⟩, ⟨(some 67), (.extract (.t 50) 0), none, .full⟩, ⟨(some 68), (.extract (.t 50) 1), none, .full⟩, ⟨(some 69), (.iaddr 1 (.t 51) (.t 55)), none, .full⟩, ⟨none, (.store 1 (.t 69) (.t 67)), none, .full⟩, ⟨(some 10), (.mov (.t 68)), none, .full⟩])
 (.seq (.seq (.reg [⟨(some 70), (.mov (.t 10)), none, .full⟩, ⟨(some 71), (.bin false .eql (.t 70) (.c (.int .u32 0))), none, .full⟩])
 (.cond (.t 71)
 (.seq (.reg [⟨(some 72), (.mov (.t 3)), none, .full⟩, ⟨(some 73), (.conv .u32 (.t 72)), none, .full⟩, ⟨(some 8), (.mov (.t 73)), none, .full⟩])
 .ret)
 .skip))
 (.seq (.reg [⟨(some 13), (.mov (.c (.int .u32 0))), none, .full⟩])
 (.seq (.seq (.reg [⟨(some 74), (.mov (.t 1)), none, .full⟩, ⟨(some 75), (.len false (.t 74)), none, .full⟩, ⟨(some 76), (.mov (.c (.int .i64 0))), none, .full⟩])
 (.block 2 (.loop L97_1)))
 (.seq (.reg [⟨(some 99), (.mov (.t 0)), none, .full⟩, ⟨(some 100), (.mov (.t 2)), none, .full⟩, ⟨(some 101), (.mov (.t 1)), none, .full⟩, ⟨(some 102), (.len false (.t 101)), none, .full⟩, ⟨(some 103), (.bin false .add (.t 100) (.t 102)), none, .full⟩, ⟨(some 104), (.iaddr 1 (.t 99) (.t 103)), none, .full⟩, ⟨(some 105), (.load 1 false (.t 104)), none, .full⟩, ⟨(some 106), (.mov (.t 13)), none, .full⟩, ⟨(some 107), (.bin false .add (.t 105) (.t 106)), none, .full⟩, ⟨(some 108), (.iaddr 1 (.t 99) (.t 103)), none, .full⟩, ⟨none, (.store 1 (.t 108) (.t 107)), none, .full⟩])
 (.seq (.reg [⟨(some 109), (.mov (.t 3)), none, .full⟩, ⟨(some 110), (.bin false .sub (.t 109) (.c (.int .u64 1))), none, .full⟩, ⟨(some 111), (.conv .u32 (.t 110)), none, .full⟩, ⟨(some 8), (.mov (.t 111)), none, .full⟩])
 .ret)))))))))⟩
theorem ok97 : ∃ fn hh, Try.prog.funcs[97]? = some fn ∧ (∀ vals w, (callFunc 97 vals).run Try.prog w = .ok (.enter 97 vals) w) ∧ comp Try.prog hh fn = some F97 :=
  ⟨_, hintOf [], Try.func97, Try.call97, by kernel_rfl⟩
def L98_0 : TCode := (.seq (.seq (.reg [⟨(some 40), (.mov (.t 12)), none, .full⟩, ⟨(some 41), (.bin false .geq (.t 40) (.c (.int .u64 4294967296))), none, .full⟩, ⟨(some 42), (.mov (.t 41)), none, .full⟩, ⟨(some 43), (.mov (.t 12)), (some (42, false)), .full⟩, ⟨(some 44), (.mov (.t 10)), (some (42, false)), .full⟩, ⟨(some 45), (.bin false .mul (.t 43) (.t 44)), (some (42, false)), .full⟩, ⟨(some 46), (.mov (.t 13)), (some (42, false)), .full⟩, ⟨(some 47), (.bin false .shl (.t 46) (.c (.int .u64 32))), (some (42, false)), .full⟩, ⟨(some 48), (.mov (.t 2)), (some (42, false)), .full⟩, ⟨(some 49), (.conv .u64 (.t 48)), (some (42, false)), .full⟩, ⟨(some 50), (.bin false .or (.t 47) (.t 49)), (some (42, false)), .full⟩, ⟨(some 51), (.bin false .gtr (.t 45) (.t 50)), (some (42, false)), .full⟩, ⟨(some 52), (.pick (.t 42) (.c (.bool true)) (.t 51)), none, .full⟩])
 (.cond (.t 52)
 .skip
 (.exit 0)))
 (.block 1 (.seq (.reg [⟨(some 53), (.mov (.t 12)), none, .full⟩, ⟨(some 54), (.bin false .sub (.t 53) (.c (.int .u64 1))), none, .full⟩, ⟨(some 12), (.mov (.t 54)), none, .full⟩])
 (.seq (.reg [⟨(some 55), (.mov (.t 13)), none, .full⟩, ⟨(some 56), (.mov (.t 9)), none, .full⟩, ⟨(some 57), (.bin false .add (.t 55) (.t 56)), none, .full⟩, ⟨(some 13), (.mov (.t 57)), none, .full⟩])
 (.seq (.reg [⟨(some 58), (.mov (.t 13)), none, .full⟩, ⟨(some 59), (.bin false .geq (.t 58) (.c (.int .u64 4294967296))), none, .full⟩])
 (.cond (.t 59)
 (.exit 0)
 .skip))))))
def F98 : TFunc := ⟨4, 61, [(.tmp 8)],
 (.seq (.reg [⟨(some 8), (.mov (.c (.int .u64 0))), none, .full⟩])
 (.seq (.reg [⟨(some 14), (.mov (.t 3)), none, .none⟩, ⟨(some 15), (.mov (.t 3)), none, .none⟩, ⟨(some 16), (.len false (.t 15)), none, .none⟩, ⟨(some 17), (.bin false .sub (.t 16) (.c (.int .i64 1))), none, .none⟩, ⟨(some 18), (.iaddr 1 (.t 14) (.t 17)), none, .none⟩, ⟨(some 19), (.load 1 false (.t 18)), none, (.rd [])⟩, ⟨(some 20), (.conv .u64 (.t 19)), none, .none⟩, ⟨(some 21), (.mov (.t 3)), none, .none⟩, ⟨(some 22), (.mov (.t 3)), none, .none⟩, ⟨(some 23), (.len false (.t 22)), none, .none⟩, ⟨(some 24), (.bin false .sub (.t 23) (.c (.int .i64 2))), none, .none⟩, ⟨(some 25), (.iaddr 1 (.t 21) (.t 24)), none, .none⟩, ⟨(some 26), (.load 1 false (.t 25)), none, (.rd [])⟩, ⟨(some 27), (.conv .u64 (.t 26)), none, .none⟩, ⟨(some 9), (.mov (.t 20)), none, .none⟩, ⟨(some 10), (.mov (.t 27)), none, .none⟩])
 (.seq (.reg [⟨(some 28), (.mov (.t 0)), none, .full⟩, ⟨(some 29), (.conv .u64 (.t 28)), none, .full⟩, ⟨(some 30), (.bin false .shl (.t 29) (.c (.int .u64 32))), none, .full⟩, ⟨(some 31), (.mov (.t 1)), none, .full⟩, ⟨(some 32), (.conv .u64 (.t 31)), none, .full⟩, ⟨(some 33), (.bin false .or (.t 30) (.t 32)), none, .full⟩, ⟨(some 11), (.mov (.t 33)), none, .full⟩])
 (.seq (.reg [⟨(some 34), (.mov (.t 11)), none, .none⟩, ⟨(some 35), (.mov (.t 9)), none, .none⟩, ⟨(some 36), (.bin false .quo (.t 34) (.t 35)), none, .none⟩, ⟨(some 37), (.mov (.t 11)), none, .none⟩, ⟨(some 38), (.mov (.t 9)), none, .none⟩, ⟨(some 39), (.bin false .rem (.t 37) (.t 38)), none, .none⟩, ⟨(some 12), (.mov (.t 36)), none, .none⟩, ⟨(some 13), (.mov (.t 39)), none, .none⟩])
 (.seq (.block 0 (.loop L98_0))
 (.seq (.reg [⟨(some 60), (.mov (.t 12)), none, .full⟩, ⟨(some 8), (.mov (.t 60)), none, .full⟩])
 .ret))))))⟩
theorem ok98 : ∃ fn hh, Try.prog.funcs[98]? = some fn ∧ (∀ vals w, (callFunc 98 vals).run Try.prog w = .ok (.enter 98 vals) w) ∧ comp Try.prog hh fn = some F98 :=
  ⟨_, hintOf [], Try.func98, Try.call98, by kernel_rfl⟩
def L99_0 : TCode := (.seq (.reg [⟨(some 9), (.bin false .lss (.t 8) (.t 7)), none, .full⟩])
 (.seq (.cond (.t 9)
 .skip
 (.exit 0))
 (.seq (.block 1 (.seq (.reg [⟨(some 10), (.mov (.t 8)), none, .full⟩, ⟨(some 4), (.mov (.t 10)), none, .full⟩])
 (.seq (.reg [⟨(some 11), (.mov (.t 0)), none, .full⟩, ⟨(some 12), (.mov (.t 4)), none, .full⟩, ⟨(some 13), (.iaddr 1 (.t 11) (.t 12)), none, .full⟩, ⟨(some 14), (.load 1 false (.t 13)), none, .full⟩, ⟨(some 15), (.conv .u64 (.t 14)), none, .full⟩, ⟨(some 5), (.mov (.t 15)), none, .full⟩])
 (.seq (.seq (.reg [⟨(some 16), (.mov (.t 4)), none, .full⟩, ⟨(some 17), (.bin false .add (.t 16) (.c (.int .i64 1))), none, .full⟩, ⟨(some 18), (.mov (.t 0)), none, .full⟩, ⟨(some 19), (.len false (.t 18)), none, .full⟩, ⟨(some 20), (.bin false .lss (.t 17) (.t 19)), none, .full⟩])
 (.cond (.t 20)
 (.reg [⟨(some 21), (.mov (.t 5)), none, .full⟩, ⟨(some 22), (.mov (.t 0)), none, .full⟩, ⟨(some 23), (.mov (.t 4)), none, .full⟩, ⟨(some 24), (.bin false .add (.t 23) (.c (.int .i64 1))), none, .full⟩, ⟨(some 25), (.iaddr 1 (.t 22) (.t 24)), none, .full⟩, ⟨(some 26), (.load 1 false (.t 25)), none, .full⟩, ⟨(some 27), (.conv .u64 (.t 26)), none, .full⟩, ⟨(some 28), (.bin false .shl (.t 27) (.c (.int .u64 32))), none, .full⟩, ⟨(some 29), (.bin false .or (.t 21) (.t 28)), none, .full⟩, ⟨(some 5), (.mov (.t 29)), none, .full⟩])
 .skip))
 (.reg [⟨(some 30), (.mov (.t 0)), none, .full⟩, ⟨(some 31), (.mov (.t 4)), none, .full⟩, ⟨(some 32), (.mov (.t 5)), none, .full⟩, ⟨(some 33), (.mov (.t 1)), none, .full⟩, ⟨(some 34), (.bin false .shr (.t 32) (.t 33)), none, .full⟩, ⟨(some 35), (.conv .u32 (.t 34)), none, .full⟩, ⟨(some 36), (.iaddr 1 (.t 30) (.t 31)), none, .full⟩, ⟨none, (.store 1 (.t 36) (.t 35)), none, .full⟩])))))
 (.reg [⟨(some 37), (.bin false .add (.t 8) (.c (.int .i64 1))), none, .full⟩, ⟨(some 8), (.mov (.t 37)), none, .full⟩]))))
def F99 : TFunc := ⟨2, 38, [],
 (.seq (.reg [⟨(some 6), (.mov (.t 0)), none, .full⟩, ⟨(some 7), (.len false (.t 6)), none, .full⟩, ⟨(some 8), (.mov (.c (.int .i64 0))), none, .full⟩])
 (.block 0 (.loop L99_0)))⟩
theorem ok99 : ∃ fn hh, Try.prog.funcs[99]? = some fn ∧ (∀ vals w, (callFunc 99 vals).run Try.prog w = .ok (.enter 99 vals) w) ∧ comp Try.prog hh fn = some F99 :=
  ⟨_, hintOf [], Try.func99, Try.call99, by kernel_rfl⟩
def F100 : TFunc := ⟨3, 22, [(.tmp 6), (.tmp 7)],
 (.seq (.reg [⟨(some 6), (.mov (.c (.int .u32 0))), none, .full⟩, ⟨(some 7), (.mov (.c (.int .u32 0))), none, .full⟩])
 (.seq (.reg [⟨(some 9), (.mov (.t 0)), none, .full⟩, ⟨(some 10), (.conv .u64 (.t 9)), none, .full⟩, ⟨(some 11), (.mov (.t 1)), none, .full⟩, ⟨(some 12), (.conv .u64 (.t 11)), none, .full⟩, ⟨(some 13), (.bin false .add (.t 10) (.t 12)), none, .full⟩, ⟨(some 14), (.mov (.t 2)), none, .full⟩, ⟨(some 15), (.conv .u64 (.t 14)), none, .full⟩, ⟨(some 16), (.bin false .add (.t 13) (.t 15)), none, .full⟩, ⟨(some 8), (.mov (.t 16)), none, .full⟩])
 (.seq (.reg [⟨(some 17), (.mov (.t 8)), none, .full⟩, ⟨(some 18), (.conv .u32 (.t 17)), none, .full⟩, ⟨(some 6), (.mov (.t 18)), none, .full⟩])
 (.seq (.reg [⟨(some 19), (.mov (.t 8)), none, .full⟩, ⟨(some 20), (.bin false .shr (.t 19) (.c (.int .u64 32))), none, .full⟩, ⟨(some 21), (.conv .u32 (.t 20)), none, .full⟩, ⟨(some 7), (.mov (.t 21)), none, .full⟩])
 .ret))))⟩
theorem ok100 : ∃ fn hh, Try.prog.funcs[100]? = some fn ∧ (∀ vals w, (callFunc 100 vals).run Try.prog w = .ok (.enter 100 vals) w) ∧ comp Try.prog hh fn = some F100 :=
  ⟨_, hintOf [], Try.func100, Try.call100, by kernel_rfl⟩
def F101 : TFunc := ⟨3, 25, [(.tmp 6), (.tmp 7)],
 (.seq (.reg [⟨(some 6), (.mov (.c (.int .u32 0))), none, .full⟩, ⟨(some 7), (.mov (.c (.int .u32 0))), none, .full⟩])
 (.seq (.reg [⟨(some 8), (.mov (.t 0)), none, .full⟩, ⟨(some 9), (.mov (.t 1)), none, .full⟩, ⟨(some 10), (.bin false .sub (.t 8) (.t 9)), none, .full⟩, ⟨(some 11), (.mov (.t 2)), none, .full⟩, ⟨(some 12), (.bin false .sub (.t 10) (.t 11)), none, .full⟩, ⟨(some 6), (.mov (.t 12)), none, .full⟩])
 (.seq (.reg [⟨(some 13), (.mov (.t 0)), none, .full⟩, ⟨(some 14), (.un .xor (.t 13)), none, .full⟩, ⟨(some 15), (.mov (.t 1)), none, .full⟩, ⟨(some 16), (.bin false .and (.t 14) (.t 15)), none, .full⟩, ⟨(some 17), (.mov (.t 0)), none, .full⟩, ⟨(some 18), (.mov (.t 1)), none, .full⟩, ⟨(some 19), (.bin false .xor (.t 17) (.t 18)), none, .full⟩, ⟨(some 20), (.un .xor (.t 19)), none, .full⟩, ⟨(some 21), (.mov (.t 6)), none, .full⟩, ⟨(some 22), (.bin false .and (.t 20) (.t 21)), none, .full⟩, ⟨(some 23), (.bin false .or (.t 16) (.t 22)), none, .full⟩, ⟨(some 24), (.bin false .shr (.t 23) (.c (.int .u64 31))), none, .full⟩, ⟨(some 7), (.mov (.t 24)), none, .full⟩])
 .ret)))⟩
theorem ok101 : ∃ fn hh, Try.prog.funcs[101]? = some fn ∧ (∀ vals w, (callFunc 101 vals).run Try.prog w = .ok (.enter 101 vals) w) ∧ comp Try.prog hh fn = some F101 :=
  ⟨_, hintOf [], Try.func101, Try.call101, by kernel_rfl⟩
def F102 : TFunc := ⟨1, 19, [(.tmp 2)],
 (.seq (.reg [⟨(some 2), (.mov (.c (.int .i64 0))), none, .full⟩])
 (.seq (.seq (.reg [⟨(some 3), (.mov (.t 0)), none, .full⟩, ⟨(some 4), (.bin false .geq (.t 3) (.c (.int .u32 65536))), none, .full⟩])
 (.cond (.t 4)
 (.seq (.reg [⟨(some 5), (.mov (.t 0)), none, .full⟩, ⟨(some 6), (.bin false .shr (.t 5) (.c (.int .u64 16))), none, .full⟩, ⟨(some 0), (.mov (.t 6)), none, .full⟩])
 (.reg [⟨(some 2), (.mov (.c (.int .i64 16))), none, .full⟩]))
 .skip))
 (.seq (.seq (.reg [⟨(some 7), (.mov (.t 0)), none, .full⟩, ⟨(some 8), (.bin false .geq (.t 7) (.c (.int .u32 256))), none, .full⟩])
 (.cond (.t 8)
 (.seq (.reg [⟨(some 9), (.mov (.t 0)), none, .full⟩, ⟨(some 10), (.bin false .shr (.t 9) (.c (.int .u64 8))), none, .full⟩, ⟨(some 0), (.mov (.t 10)), none, .full⟩])
 (.reg [⟨(some 11), (.mov (.t 2)), none, .full⟩, ⟨(some 12), (.bin false .add (.t 11) (.c (.int .i64 8))), none, .full⟩, ⟨(some 2), (.mov (.t 12)), none, .full⟩]))
 .skip))
 (.seq (.reg [⟨(some 13), (.mov (.t 2)), none, .full⟩, ⟨(some 14), (.mov (.t 0)), none, .full⟩, ⟨(some 15), (.conv .u8 (.t 14)), none, .full⟩, ⟨(some 16), (.index (.c (.str ⟨#[0, 1, 2, 2, 3, 3, 3, 3, 4, 4, 4, 4, 4, 4, 4, 4, 5, 5, 5, 5, 5, 5, 5, 5, 5, 5, 5, 5, 5, 5, 5, 5, 6, 6, 6, 6, 6, 6, 6, 6, 6, 6, 6, 6, 6, 6, 6, 6, 6, 6, 6, 6, 6, 6, 6, 6, 6, 6, 6, 6, 6, 6, 6, 6, 7, 7, 7, 7, 7, 7, 7, 7, 7, 7, 7, 7, 7, 7, 7, 7, 7, 7, 7, 7, 7, 7, 7, 7, 7, 7, 7, 7, 7, 7, 7, 7, 7, 7, 7, 7, 7, 7, 7, 7, 7, 7, 7, 7, 7, 7, 7, 7, 7, 7, 7, 7, 7, 7, 7, 7, 7, 7, 7, 7, 7, 7, 7, 7, 8, 8, 8, 8, 8, 8, 8, 8, 8, 8, 8, 8, 8, 8, 8, 8, 8, 8, 8, 8, 8, 8, 8, 8, 8, 8, 8, 8, 8, 8, 8, 8, 8, 8, 8, 8, 8, 8, 8, 8, 8, 8, 8, 8, 8, 8, 8, 8, 8, 8, 8, 8, 8, 8, 8, 8, 8, 8, 8, 8, 8, 8, 8, 8, 8, 8, 8, 8, 8, 8, 8, 8, 8, 8, 8, 8, 8, 8, 8, 8, 8, 8, 8, 8, 8, 8, 8, 8, 8, 8, 8, 8, 8, 8, 8, 8, 8, 8, 8, 8, 8, 8, 8, 8, 8, 8, 8, 8, 8, 8, 8, 8, 8, 8, 8, 8, 8, 8, 8, 8, 8, 8, 8, 8, 8, 8, 8, 8]⟩)) (.t 15)), none, .full⟩, ⟨(some 17), (.conv .i64 (.t 16)), none, .full⟩, ⟨(some 18), (.bin false .add (.t 13) (.t 17)), none, .full⟩, ⟨(some 2), (.mov (.t 18)), none, .full⟩])
 .ret))))⟩
theorem ok102 : ∃ fn hh, Try.prog.funcs[102]? = some fn ∧ (∀ vals w, (callFunc 102 vals).run Try.prog w = .ok (.enter 102 vals) w) ∧ comp Try.prog hh fn = some F102 :=
  ⟨_, hintOf [], Try.func102, Try.call102, by kernel_rfl⟩
end Go.TM.Fn
end
section
set_option maxRecDepth 20000
namespace Go.TM.Fn
open Go.Proofs
def tabL : List (Nat × TFunc) := [(3, F3), (4, F4), (5, F5), (6, F6), (7, F7), (8, F8), (9, F9), (10, F10), (11, F11), (12, F12), (13, F13), (14, F14), (15, F15), (16, F16), (17, F17), (18, F18), (19, F19), (20, F20), (21, F21), (22, F22), (23, F23), (24, F24), (25, F25), (26, F26), (27, F27), (28, F28), (29, F29), (30, F30), (31, F31), (32, F32), (33, F33), (34, F34), (35, F35), (36, F36), (37, F37), (38, F38), (39, F39), (40, F40), (41, F41), (42, F42), (43, F43), (44, F44), (45, F45), (46, F46), (47, F47), (48, F48), (49, F49), (50, F50), (51, F51), (52, F52), (53, F53), (54, F54), (55, F55), (56, F56), (57, F57), (58, F58), (59, F59), (60, F60), (61, F61), (62, F62), (63, F63), (64, F64), (65, F65), (66, F66), (67, F67), (68, F68), (69, F69), (70, F70), (71, F71), (72, F72), (73, F73), (74, F74), (75, F75), (76, F76), (77, F77), (78, F78), (79, F79), (80, F80), (81, F81), (82, F82), (83, F83), (84, F84), (85, F85), (86, F86), (87, F87), (88, F88), (89, F89), (90, F90), (91, F91), (92, F92), (93, F93), (94, F94), (95, F95), (96, F96), (97, F97), (98, F98), (99, F99), (100, F100), (101, F101), (102, F102)]
def mach : Mach := { tab := fun f => (tabL.find? (·.1 == f)).map (·.2), ext := fun _ _ => none }
theorem tabL_ok : ∀ p ∈ tabL, ∃ fn hh, Try.prog.funcs[p.1]? = some fn ∧ (∀ vals w, (callFunc p.1 vals).run Try.prog w = .ok (.enter p.1 vals) w) ∧ comp Try.prog hh fn = some p.2 := by
  unfold tabL
  exact List.forall_mem_cons.2 ⟨ok3, List.forall_mem_cons.2 ⟨ok4, List.forall_mem_cons.2 ⟨ok5, List.forall_mem_cons.2 ⟨ok6, List.forall_mem_cons.2 ⟨ok7, List.forall_mem_cons.2 ⟨ok8, List.forall_mem_cons.2 ⟨ok9, List.forall_mem_cons.2 ⟨ok10, List.forall_mem_cons.2 ⟨ok11, List.forall_mem_cons.2 ⟨ok12, List.forall_mem_cons.2 ⟨ok13, List.forall_mem_cons.2 ⟨ok14, List.forall_mem_cons.2 ⟨ok15, List.forall_mem_cons.2 ⟨ok16, List.forall_mem_cons.2 ⟨ok17, List.forall_mem_cons.2 ⟨ok18, List.forall_mem_cons.2 ⟨ok19, List.forall_mem_cons.2 ⟨ok20, List.forall_mem_cons.2 ⟨ok21, List.forall_mem_cons.2 ⟨ok22, List.forall_mem_cons.2 ⟨ok23, List.forall_mem_cons.2 ⟨ok24, List.forall_mem_cons.2 ⟨ok25, List.forall_mem_cons.2 ⟨ok26, List.forall_mem_cons.2 ⟨ok27, List.forall_mem_cons.2 ⟨ok28, List.forall_mem_cons.2 ⟨ok29, List.forall_mem_cons.2 ⟨ok30, List.forall_mem_cons.2 ⟨ok31, List.forall_mem_cons.2 ⟨ok32, List.forall_mem_cons.2 ⟨ok33, List.forall_mem_cons.2 ⟨ok34, List.forall_mem_cons.2 ⟨ok35, List.forall_mem_cons.2 ⟨ok36, List.forall_mem_cons.2 ⟨ok37, List.forall_mem_cons.2 ⟨ok38, List.forall_mem_cons.2 ⟨ok39, List.forall_mem_cons.2 ⟨ok40, List.forall_mem_cons.2 ⟨ok41, List.forall_mem_cons.2 ⟨ok42, List.forall_mem_cons.2 ⟨ok43, List.forall_mem_cons.2 ⟨ok44, List.forall_mem_cons.2 ⟨ok45, List.forall_mem_cons.2 ⟨ok46, List.forall_mem_cons.2 ⟨ok47, List.forall_mem_cons.2 ⟨ok48, List.forall_mem_cons.2 ⟨ok49, List.forall_mem_cons.2 ⟨ok50, List.forall_mem_cons.2 ⟨ok51, List.forall_mem_cons.2 ⟨ok52, List.forall_mem_cons.2 ⟨ok53, List.forall_mem_cons.2 ⟨ok54, List.forall_mem_cons.2 ⟨ok55, List.forall_mem_cons.2 ⟨ok56, List.forall_mem_cons.2 ⟨ok57, List.forall_mem_cons.2 ⟨ok58, List.forall_mem_cons.2 ⟨ok59, List.forall_mem_cons.2 ⟨ok60, List.forall_mem_cons.2 ⟨ok61, List.forall_mem_cons.2 ⟨ok62, List.forall_mem_cons.2 ⟨ok63, List.forall_mem_cons.2 ⟨ok64, List.forall_mem_cons.2 ⟨ok65, List.forall_mem_cons.2 ⟨ok66, List.forall_mem_cons.2 ⟨ok67, List.forall_mem_cons.2 ⟨ok68, List.forall_mem_cons.2 ⟨ok69, List.forall_mem_cons.2 ⟨ok70, List.forall_mem_cons.2 ⟨ok71, List.forall_mem_cons.2 ⟨ok72, List.forall_mem_cons.2 ⟨ok73, List.forall_mem_cons.2 ⟨ok74, List.forall_mem_cons.2 ⟨ok75, List.forall_mem_cons.2 ⟨ok76, List.forall_mem_cons.2 ⟨ok77, List.forall_mem_cons.2 ⟨ok78, List.forall_mem_cons.2 ⟨ok79, List.forall_mem_cons.2 ⟨ok80, List.forall_mem_cons.2 ⟨ok81, List.forall_mem_cons.2 ⟨ok82, List.forall_mem_cons.2 ⟨ok83, List.forall_mem_cons.2 ⟨ok84, List.forall_mem_cons.2 ⟨ok85, List.forall_mem_cons.2 ⟨ok86, List.forall_mem_cons.2 ⟨ok87, List.forall_mem_cons.2 ⟨ok88, List.forall_mem_cons.2 ⟨ok89, List.forall_mem_cons.2 ⟨ok90, List.forall_mem_cons.2 ⟨ok91, List.forall_mem_cons.2 ⟨ok92, List.forall_mem_cons.2 ⟨ok93, List.forall_mem_cons.2 ⟨ok94, List.forall_mem_cons.2 ⟨ok95, List.forall_mem_cons.2 ⟨ok96, List.forall_mem_cons.2 ⟨ok97, List.forall_mem_cons.2 ⟨ok98, List.forall_mem_cons.2 ⟨ok99, List.forall_mem_cons.2 ⟨ok100, List.forall_mem_cons.2 ⟨ok101, List.forall_mem_cons.2 ⟨ok102, (fun _ h => by cases h)⟩⟩⟩⟩⟩⟩⟩⟩⟩⟩⟩⟩⟩⟩⟩⟩⟩⟩⟩⟩⟩⟩⟩⟩⟩⟩⟩⟩⟩⟩⟩⟩⟩⟩⟩⟩⟩⟩⟩⟩⟩⟩⟩⟩⟩⟩⟩⟩⟩⟩⟩⟩⟩⟩⟩⟩⟩⟩⟩⟩⟩⟩⟩⟩⟩⟩⟩⟩⟩⟩⟩⟩⟩⟩⟩⟩⟩⟩⟩⟩⟩⟩⟩⟩⟩⟩⟩⟩⟩⟩⟩⟩⟩⟩⟩⟩⟩⟩⟩⟩
theorem mach_ok : mach.Ok Try.prog where
  mix := by kernel_rfl
  tab := fun f F h => by
    simp only [mach, Option.map_eq_some_iff] at h
    obtain ⟨p, hp, rfl⟩ := h
    have h1 := List.find?_some hp
    have h2 := List.mem_of_find?_eq_some hp
    simp only [beq_iff_eq] at h1
    subst h1
    exact tabL_ok p h2
  ext := fun _ _ _ _ h => by cases h
theorem tab3 : mach.tab 3 = some F3 := rfl
theorem tab4 : mach.tab 4 = some F4 := rfl
theorem tab5 : mach.tab 5 = some F5 := rfl
theorem tab6 : mach.tab 6 = some F6 := rfl
theorem tab7 : mach.tab 7 = some F7 := rfl
theorem tab8 : mach.tab 8 = some F8 := rfl
theorem tab9 : mach.tab 9 = some F9 := rfl
theorem tab10 : mach.tab 10 = some F10 := rfl
theorem tab11 : mach.tab 11 = some F11 := rfl
theorem tab12 : mach.tab 12 = some F12 := rfl
theorem tab13 : mach.tab 13 = some F13 := rfl
theorem tab14 : mach.tab 14 = some F14 := rfl
theorem tab15 : mach.tab 15 = some F15 := rfl
theorem tab16 : mach.tab 16 = some F16 := rfl
theorem tab17 : mach.tab 17 = some F17 := rfl
theorem tab18 : mach.tab 18 = some F18 := rfl
theorem tab19 : mach.tab 19 = some F19 := rfl
theorem tab20 : mach.tab 20 = some F20 := rfl
theorem tab21 : mach.tab 21 = some F21 := rfl
theorem tab22 : mach.tab 22 = some F22 := rfl
theorem tab23 : mach.tab 23 = some F23 := rfl
theorem tab24 : mach.tab 24 = some F24 := rfl
theorem tab25 : mach.tab 25 = some F25 := rfl
theorem tab26 : mach.tab 26 = some F26 := rfl
theorem tab27 : mach.tab 27 = some F27 := rfl
theorem tab28 : mach.tab 28 = some F28 := rfl
theorem tab29 : mach.tab 29 = some F29 := rfl
theorem tab30 : mach.tab 30 = some F30 := rfl
theorem tab31 : mach.tab 31 = some F31 := rfl
theorem tab32 : mach.tab 32 = some F32 := rfl
theorem tab33 : mach.tab 33 = some F33 := rfl
theorem tab34 : mach.tab 34 = some F34 := rfl
theorem tab35 : mach.tab 35 = some F35 := rfl
theorem tab36 : mach.tab 36 = some F36 := rfl
theorem tab37 : mach.tab 37 = some F37 := rfl
theorem tab38 : mach.tab 38 = some F38 := rfl
theorem tab39 : mach.tab 39 = some F39 := rfl
theorem tab40 : mach.tab 40 = some F40 := rfl
theorem tab41 : mach.tab 41 = some F41 := rfl
theorem tab42 : mach.tab 42 = some F42 := rfl
theorem tab43 : mach.tab 43 = some F43 := rfl
theorem tab44 : mach.tab 44 = some F44 := rfl
theorem tab45 : mach.tab 45 = some F45 := rfl
theorem tab46 : mach.tab 46 = some F46 := rfl
theorem tab47 : mach.tab 47 = some F47 := rfl
theorem tab48 : mach.tab 48 = some F48 := rfl
theorem tab49 : mach.tab 49 = some F49 := rfl
theorem tab50 : mach.tab 50 = some F50 := rfl
theorem tab51 : mach.tab 51 = some F51 := rfl
theorem tab52 : mach.tab 52 = some F52 := rfl
theorem tab53 : mach.tab 53 = some F53 := rfl
theorem tab54 : mach.tab 54 = some F54 := rfl
theorem tab55 : mach.tab 55 = some F55 := rfl
theorem tab56 : mach.tab 56 = some F56 := rfl
theorem tab57 : mach.tab 57 = some F57 := rfl
theorem tab58 : mach.tab 58 = some F58 := rfl
theorem tab59 : mach.tab 59 = some F59 := rfl
theorem tab60 : mach.tab 60 = some F60 := rfl
theorem tab61 : mach.tab 61 = some F61 := rfl
theorem tab62 : mach.tab 62 = some F62 := rfl
theorem tab63 : mach.tab 63 = some F63 := rfl
theorem tab64 : mach.tab 64 = some F64 := rfl
theorem tab65 : mach.tab 65 = some F65 := rfl
theorem tab66 : mach.tab 66 = some F66 := rfl
theorem tab67 : mach.tab 67 = some F67 := rfl
theorem tab68 : mach.tab 68 = some F68 := rfl
theorem tab69 : mach.tab 69 = some F69 := rfl
theorem tab70 : mach.tab 70 = some F70 := rfl
theorem tab71 : mach.tab 71 = some F71 := rfl
theorem tab72 : mach.tab 72 = some F72 := rfl
theorem tab73 : mach.tab 73 = some F73 := rfl
theorem tab74 : mach.tab 74 = some F74 := rfl
theorem tab75 : mach.tab 75 = some F75 := rfl
theorem tab76 : mach.tab 76 = some F76 := rfl
theorem tab77 : mach.tab 77 = some F77 := rfl
theorem tab78 : mach.tab 78 = some F78 := rfl
theorem tab79 : mach.tab 79 = some F79 := rfl
theorem tab80 : mach.tab 80 = some F80 := rfl
theorem tab81 : mach.tab 81 = some F81 := rfl
theorem tab82 : mach.tab 82 = some F82 := rfl
theorem tab83 : mach.tab 83 = some F83 := rfl
theorem tab84 : mach.tab 84 = some F84 := rfl
theorem tab85 : mach.tab 85 = some F85 := rfl
theorem tab86 : mach.tab 86 = some F86 := rfl
theorem tab87 : mach.tab 87 = some F87 := rfl
theorem tab88 : mach.tab 88 = some F88 := rfl
theorem tab89 : mach.tab 89 = some F89 := rfl
theorem tab90 : mach.tab 90 = some F90 := rfl
theorem tab91 : mach.tab 91 = some F91 := rfl
theorem tab92 : mach.tab 92 = some F92 := rfl
theorem tab93 : mach.tab 93 = some F93 := rfl
theorem tab94 : mach.tab 94 = some F94 := rfl
theorem tab95 : mach.tab 95 = some F95 := rfl
theorem tab96 : mach.tab 96 = some F96 := rfl
theorem tab97 : mach.tab 97 = some F97 := rfl
theorem tab98 : mach.tab 98 = some F98 := rfl
theorem tab99 : mach.tab 99 = some F99 := rfl
theorem tab100 : mach.tab 100 = some F100 := rfl
theorem tab101 : mach.tab 101 = some F101 := rfl
theorem tab102 : mach.tab 102 = some F102 := rfl
end Go.TM.Fn
end
