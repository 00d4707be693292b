/- The functions in the machine's form, each tied to the loaded program by the kernel; the table of all. Printed by program. No condition. -/
import Derived.Test.YtjjaeedhbnchlaaS3A1
import Derived.Test.YtjjaeedhbnchlaaProg
import Derived.KernelRfl
section
namespace Go.TM.Fn
open Go.Proofs
def F3 : TFunc := ⟨4, 91, [(.tmp 8)],
 (.seq (.reg [⟨(some 8), (.mov (.c (.bool false))), none, .full⟩])
 (.seq (.reg [⟨(some 18), (.mov (.t 0)), none, .full⟩, ⟨(some 19), (.call 4 0 [] [(.t 18)]), none, .full⟩, ⟨(some 9), (.alloc [(.int .i64 0), .nils, (.int .i64 0), .nils, .nils]), none, .full⟩, ⟨none, (.store 5 (.t 9) (.t 19)), none, .full⟩])
 (.seq (.reg [⟨(some 20), (.load 5 true (.t 9)), none, (.box 9)⟩, ⟨(some 21), (.mov (.t 1)), none, .none⟩, ⟨(some 22), (.call 5 1 [] [(.t 20), (.t 21)]), none, (.rd [10, 11])⟩, ⟨(some 23), (.load 5 true (.t 9)), none, (.box 9)⟩, ⟨(some 24), (.mov (.t 2)), none, .none⟩, ⟨(some 25), (.call 5 0 [] [(.t 23), (.t 24)]), none, (.rd [10, 11])⟩, ⟨(some 10), (.alloc [.nils, .nils, .nils, .nils, (.bool false)]), none, .none⟩, ⟨(some 11), (.alloc [.nils, .nils, .nils, .nils, (.bool false)]), none, .none⟩, ⟨none, (.store 5 (.t 10) (.t 22)), none, (.box 10)⟩, ⟨none, (.store 5 (.t 11) (.t 25)), none, (.box 11)⟩])
 (.seq (.reg [⟨(some 26), (.mov (.t 3)), none, .full⟩, ⟨(some 27), (.bin false .and (.t 26) (.c (.int .i64 7))), none, .full⟩, ⟨(some 28), (.bin false .sub (.t 27) (.c (.int .i64 1))), none, .full⟩, ⟨(some 29), (.mov (.t 3)), none, .full⟩, ⟨(some 30), (.bin false .shr (.t 29) (.c (.int .u64 3))), none, .full⟩, ⟨(some 31), (.bin false .and (.t 30) (.c (.int .i64 7))), none, .full⟩, ⟨(some 32), (.bin false .add (.c (.int .i64 1)) (.t 31)), none, .full⟩, ⟨(some 33), (.mov (.t 3)), none, .full⟩, ⟨(some 34), (.bin false .shr (.t 33) (.c (.int .u64 6))), none, .full⟩, ⟨(some 35), (.bin false .and (.t 34) (.c (.int .i64 7))), none, .full⟩, ⟨(some 36), (.bin false .quo (.t 35) (.c (.int .i64 7))), none, .full⟩, ⟨(some 37), (.bin false .mul (.t 36) (.c (.int .i64 9))), none, .full⟩, ⟨(some 38), (.bin false .sub (.t 32) (.t 37)), none, .full⟩, ⟨(some 12), (.mov (.t 28)), none, .full⟩, ⟨(some 13), (.mov (.t 38)), none, .full⟩])
 (.seq (.seq (.reg [⟨(some 39), (.mov (.t 3)), none, .full⟩, ⟨(some 40), (.bin false .shr (.t 39) (.c (.int .u64 9))), none, .full⟩, ⟨(some 41), (.bin false .and (.t 40) (.c (.int .i64 7))), none, .full⟩])
 (.block 0 (.seq (.reg [⟨(some 46), (.bin false .eql (.t 41) (.c (.int .i64 0))), none, .full⟩, ⟨(some 45), (.mov (.t 46)), none, .full⟩])
 (.cond (.t 45)
 .skip
 (.seq (.reg [⟨(some 48), (.bin false .eql (.t 41) (.c (.int .i64 1))), none, .full⟩, ⟨(some 47), (.mov (.t 48)), none, .full⟩])
 (.cond (.t 47)
 (.reg [⟨(some 49), (.faddr 4 (.t 11)), none, .full⟩, ⟨none, (.store 1 (.t 49) (.c (.bool true))), none, .full⟩])
 (.seq (.reg [⟨(some 51), (.bin false .eql (.t 41) (.c (.int .i64 2))), none, .full⟩, ⟨(some 50), (.mov (.t 51)), none, .full⟩])
 (.cond (.t 50)
 (.reg [⟨(some 52), (.faddr 0 (.t 11)), none, .full⟩, ⟨(some 53), (.load 1 false (.t 52)), none, .full⟩, ⟨(some 54), (.slice 4 false (.t 53) (some (.c (.int .i64 1))) none none), none, .full⟩, ⟨(some 55), (.faddr 0 (.t 11)), none, .full⟩, ⟨none, (.store 1 (.t 55) (.t 54)), none, .full⟩])
 (.seq (.reg [⟨(some 57), (.bin false .eql (.t 41) (.c (.int .i64 3))), none, .full⟩, ⟨(some 56), (.mov (.t 57)), none, .full⟩])
 (.cond (.t 56)
 (.reg [⟨(some 58), (.faddr 2 (.t 10)), none, .none⟩, ⟨(some 59), (.load 1 false (.t 58)), none, (.box 10)⟩, ⟨(some 60), (.call 6 0 [] [(.c (.int .i64 0))]), none, (.rd [])⟩, ⟨(some 61), (.bslice 4 [(.bool false), (.sl []), (.bool false), (.sl [])] 1 [(0, (.t 60))]), none, .none⟩, ⟨(some 62), (.app 4 false (.t 59) (.t 61)), none, (.fb [])⟩, ⟨(some 63), (.faddr 2 (.t 10)), none, .none⟩, ⟨none, (.store 1 (.t 63) (.t 62)), none, (.box 10)⟩])
 (.reg [⟨(some 42), (.faddr 3 (.t 10)), none, .full⟩, ⟨(some 43), (.load 1 false (.t 42)), none, .full⟩, ⟨(some 44), (.faddr 3 (.t 11)), none, .full⟩, ⟨none, (.store 1 (.t 44) (.t 43)), none, .full⟩])))))))))))
 (.seq (.reg [⟨(some 65), (.load 5 true (.t 10)), none, .full⟩, ⟨(some 66), (.load 5 true (.t 11)), none, .full⟩, ⟨(some 67), (.mov (.t 12)), none, .full⟩, ⟨(some 68), (.mov (.t 13)), none, .full⟩, ⟨(some 69), (.call 7 0 [] [(.t 65), (.t 66), (.t 67), (.t 68)]), none, .full⟩, ⟨(some 64), (.mov (.t 69)), none, .full⟩, ⟨(some 70), (.extract (.t 64) 0), none, .full⟩, ⟨(some 71), (.extract (.t 64) 1), none, .full⟩, ⟨(some 14), (.alloc [.nils, .nils, .nils, .nils, (.bool false)]), none, .full⟩, ⟨none, (.store 5 (.t 14) (.t 70)), none, .full⟩, ⟨(some 15), (.mov (.t 71)), none, .full⟩])
 (.seq (.reg [⟨(some 73), (.load 5 true (.t 10)), none, .full⟩, ⟨(some 74), (.load 5 true (.t 11)), none, .full⟩, ⟨(some 75), (.mov (.t 12)), none, .full⟩, ⟨(some 76), (.mov (.t 13)), none, .full⟩, ⟨(some 77), (.call 8 0 [] [(.t 73), (.t 74), (.t 75), (.t 76)]), none, .full⟩, ⟨(some 72), (.mov (.t 77)), none, .full⟩, ⟨(some 78), (.extract (.t 72) 0), none, .full⟩, ⟨(some 79), (.extract (.t 72) 1), none, .full⟩, ⟨(some 16), (.alloc [.nils, .nils, .nils, .nils, (.bool false)]), none, .full⟩, ⟨none, (.store 5 (.t 16) (.t 78)), none, .full⟩, ⟨(some 17), (.mov (.t 79)), none, .full⟩])
 (.seq (.reg [⟨(some 80), (.mov (.t 15)), none, .full⟩, ⟨(some 81), (.mov (.t 17)), none, .full⟩, ⟨(some 82), (.bin false .eql (.t 80) (.t 81)), none, .full⟩, ⟨(some 83), (.mov (.t 82)), none, .full⟩, ⟨(some 84), (.load 5 true (.t 14)), (some (83, true)), .full⟩, ⟨(some 85), (.load 5 true (.t 16)), (some (83, true)), .full⟩, ⟨(some 86), (.call 9 0 [] [(.t 84), (.t 85)]), (some (83, true)), .full⟩, ⟨(some 87), (.pick (.t 83) (.t 86) (.c (.bool false))), none, .full⟩, ⟨(some 88), (.mov (.t 87)), none, .full⟩, ⟨(some 89), (.call 10 0 [] []), (some (88, true)), .full⟩, ⟨(some 90), (.pick (.t 88) (.t 89) (.c (.bool false))), none, .full⟩, ⟨(some 8), (.mov (.t 90)), none, .full⟩])
 .ret))))))))⟩
theorem ok3 : ∃ fn hh, Try.prog.funcs[3]? = some fn ∧ (∀ vals w, (callFunc 3 vals).run Try.prog w = .ok (.enter 3 vals) w) ∧ comp Try.prog hh fn = some F3 :=
  ⟨_, hintOf [(22, 1, [])], Try.func3, Try.call3, by kernel_rfl⟩
def L4_0 : TCode := (.seq (.seq (.reg [⟨(some 31), (.mov (.t 5)), none, .full⟩, ⟨(some 32), (.mov (.t 0)), none, .full⟩, ⟨(some 33), (.call 11 0 [] [(.t 32), (.c (.int .i64 2))]), none, .full⟩, ⟨(some 34), (.bin false .rem (.t 33) (.c (.int .i64 7))), none, .full⟩, ⟨(some 35), (.bin false .lss (.t 31) (.t 34)), none, .full⟩])
 (.cond (.t 35)
 .skip
 (.exit 0)))
 (.seq (.block 1 (.reg [⟨(some 38), (.faddr 3 (.t 3)), none, .none⟩, ⟨(some 39), (.load 1 false (.t 38)), none, (.box 3)⟩, ⟨(some 40), (.mov (.t 4)), none, .none⟩, ⟨(some 41), (.mov (.t 0)), none, .none⟩, ⟨(some 42), (.mov (.t 5)), none, .none⟩, ⟨(some 43), (.bin false .mul (.c (.int .i64 2)) (.t 42)), none, .none⟩, ⟨(some 44), (.bin false .add (.c (.int .i64 5)) (.t 43)), none, .none⟩, ⟨(some 45), (.call 11 0 [] [(.t 41), (.t 44)]), none, (.rd [])⟩, ⟨(some 46), (.mov (.t 0)), none, .none⟩, ⟨(some 47), (.mov (.t 5)), none, .none⟩, ⟨(some 48), (.bin false .mul (.c (.int .i64 2)) (.t 47)), none, .none⟩, ⟨(some 49), (.bin false .add (.c (.int .i64 6)) (.t 48)), none, .none⟩, ⟨(some 50), (.call 11 0 [] [(.t 46), (.t 49)]), none, (.rd [])⟩, ⟨(some 51), (.call 12 0 [] [(.t 40), (.t 45), (.t 50)]), none, (.rd [])⟩, ⟨(some 52), (.bslice 3 [(.str ⟨#[]⟩), (.sl []), (.int .i64 0)] 1 [(0, (.t 51))]), none, .none⟩, ⟨(some 53), (.app 3 false (.t 39) (.t 52)), none, (.fb [])⟩, ⟨(some 54), (.faddr 3 (.t 3)), none, .none⟩, ⟨none, (.store 1 (.t 54) (.t 53)), none, (.box 3)⟩]))
 (.reg [⟨(some 36), (.mov (.t 5)), none, .full⟩, ⟨(some 37), (.bin false .add (.t 36) (.c (.int .i64 1))), none, .full⟩, ⟨(some 5), (.mov (.t 37)), none, .full⟩])))
def L4_2 : TCode := (.seq (.seq (.reg [⟨(some 70), (.mov (.t 9)), none, .full⟩, ⟨(some 71), (.mov (.t 4)), none, .full⟩, ⟨(some 72), (.len false (.t 71)), none, .full⟩, ⟨(some 73), (.bin false .lss (.t 70) (.t 72)), none, .full⟩])
 (.cond (.t 73)
 .skip
 (.exit 4)))
 (.seq (.block 5 (.seq (.reg [⟨(some 76), (.mov (.t 9)), none, .full⟩, ⟨(some 77), (.mov (.t 8)), none, .full⟩, ⟨(some 78), (.bin false .neq (.t 76) (.t 77)), none, .full⟩, ⟨(some 79), (.mov (.t 78)), none, .full⟩, ⟨(some 80), (.mov (.t 4)), (some (79, false)), .full⟩, ⟨(some 81), (.len false (.t 80)), (some (79, false)), .full⟩, ⟨(some 82), (.bin false .eql (.t 81) (.c (.int .i64 3))), (some (79, false)), .full⟩, ⟨(some 83), (.pick (.t 79) (.c (.bool true)) (.t 82)), none, .full⟩])
 (.cond (.t 83)
 (.reg [⟨(some 84), (.faddr 0 (.t 7)), none, .none⟩, ⟨(some 85), (.load 1 false (.t 84)), none, (.box 7)⟩, ⟨(some 86), (.mov (.t 4)), none, .none⟩, ⟨(some 87), (.mov (.t 9)), none, .none⟩, ⟨(some 88), (.iaddr 1 (.t 86) (.t 87)), none, .none⟩, ⟨(some 89), (.load 1 false (.t 88)), none, (.rd [])⟩, ⟨(some 90), (.bslice 1 [(.int .i64 0)] 1 [(0, (.t 89))]), none, .none⟩, ⟨(some 91), (.app 1 false (.t 85) (.t 90)), none, (.fb [])⟩, ⟨(some 92), (.faddr 0 (.t 7)), none, .none⟩, ⟨none, (.store 1 (.t 92) (.t 91)), none, (.box 7)⟩])
 .skip)))
 (.reg [⟨(some 74), (.mov (.t 9)), none, .full⟩, ⟨(some 75), (.bin false .add (.t 74) (.c (.int .i64 1))), none, .full⟩, ⟨(some 9), (.mov (.t 75)), none, .full⟩])))
def L4_1 : TCode := (.seq (.seq (.reg [⟨(some 55), (.mov (.t 6)), none, .full⟩, ⟨(some 56), (.mov (.t 0)), none, .full⟩, ⟨(some 57), (.call 11 0 [] [(.t 56), (.c (.int .i64 3))]), none, .full⟩, ⟨(some 58), (.bin false .rem (.t 57) (.c (.int .i64 3))), none, .full⟩, ⟨(some 59), (.bin false .lss (.t 55) (.t 58)), none, .full⟩])
 (.cond (.t 59)
 .skip
 (.exit 2)))
 (.seq (.block 3 (.seq (.reg [⟨(some 62), (.build [.nils, (.int .i64 0)] [(1, (1, (.c (.int .i64 2))))]), none, .full⟩, ⟨(some 7), (.alloc [.nils, (.int .i64 0)]), none, .full⟩, ⟨none, (.store 2 (.t 7) (.t 62)), none, .full⟩])
 (.seq (.reg [⟨(some 63), (.mov (.t 0)), none, .full⟩, ⟨(some 64), (.mov (.t 6)), none, .full⟩, ⟨(some 65), (.bin false .add (.c (.int .i64 20)) (.t 64)), none, .full⟩, ⟨(some 66), (.call 11 0 [] [(.t 63), (.t 65)]), none, .full⟩, ⟨(some 67), (.mov (.t 4)), none, .full⟩, ⟨(some 68), (.len false (.t 67)), none, .full⟩, ⟨(some 69), (.bin false .rem (.t 66) (.t 68)), none, .full⟩, ⟨(some 8), (.mov (.t 69)), none, .full⟩])
 (.seq (.seq (.reg [⟨(some 9), (.mov (.c (.int .i64 0))), none, .full⟩])
 (.block 4 (.loop L4_2)))
 (.seq (.seq (.reg [⟨(some 93), (.mov (.t 0)), none, .full⟩, ⟨(some 94), (.mov (.t 6)), none, .full⟩, ⟨(some 95), (.bin false .add (.c (.int .i64 24)) (.t 94)), none, .full⟩, ⟨(some 96), (.call 11 0 [] [(.t 93), (.t 95)]), none, .full⟩, ⟨(some 97), (.bin false .rem (.t 96) (.c (.int .i64 2))), none, .full⟩, ⟨(some 98), (.bin false .eql (.t 97) (.c (.int .i64 1))), none, .full⟩, ⟨(some 99), (.mov (.t 98)), none, .full⟩, ⟨(some 100), (.faddr 0 (.t 7)), (some (99, true)), .full⟩, ⟨(some 101), (.load 1 false (.t 100)), (some (99, true)), .full⟩, ⟨(some 102), (.len false (.t 101)), (some (99, true)), .full⟩, ⟨(some 103), (.bin false .gtr (.t 102) (.c (.int .i64 2))), (some (99, true)), .full⟩, ⟨(some 104), (.pick (.t 99) (.t 103) (.c (.bool false))), none, .full⟩])
 (.cond (.t 104)
 (.reg [⟨(some 105), (.faddr 1 (.t 7)), none, .full⟩, ⟨none, (.store 1 (.t 105) (.c (.int .i64 3))), none, .full⟩])
 .skip))
 (.reg [⟨(some 106), (.faddr 4 (.t 3)), none, .full⟩, ⟨(some 107), (.load 1 false (.t 106)), none, .full⟩, ⟨(some 108), (.load 2 true (.t 7)), none, .full⟩, ⟨(some 109), (.bslice 2 [(.sl []), (.int .i64 0)] 1 [(0, (.t 108))]), none, .full⟩, ⟨(some 110), (.app 2 false (.t 107) (.t 109)), none, .full⟩, ⟨(some 111), (.faddr 4 (.t 3)), none, .full⟩, ⟨none, (.store 1 (.t 111) (.t 110)), none, .full⟩]))))))
 (.reg [⟨(some 60), (.mov (.t 6)), none, .full⟩, ⟨(some 61), (.bin false .add (.t 60) (.c (.int .i64 1))), none, .full⟩, ⟨(some 6), (.mov (.t 61)), none, .full⟩])))
def F4 : TFunc := ⟨1, 113, [(.cell 2 5 true)],
 (.seq (.reg [⟨(some 2), (.alloc [(.int .i64 0), .nils, (.int .i64 0), .nils, .nils]), none, .full⟩])
 (.seq (.reg [⟨(some 10), (.mov (.t 0)), none, .full⟩, ⟨(some 11), (.call 11 0 [] [(.t 10), (.c (.int .i64 0))]), none, .full⟩, ⟨(some 12), (.bin false .rem (.t 11) (.c (.int .i64 30))), none, .full⟩, ⟨(some 13), (.build [(.int .i64 0), .nils, (.int .i64 0), .nils, .nils] [(0, (1, (.c (.int .i64 6)))), (2, (1, (.t 12)))]), none, .full⟩, ⟨(some 3), (.alloc [(.int .i64 0), .nils, (.int .i64 0), .nils, .nils]), none, .full⟩, ⟨none, (.store 5 (.t 3) (.t 13)), none, .full⟩])
 (.seq (.reg [⟨(some 14), (.bslice 1 [(.int .i64 0)] 3 [(0, (.c (.int .i64 0))), (1, (.c (.int .i64 1))), (2, (.c (.int .i64 2)))]), none, .full⟩, ⟨(some 15), (.bslice 1 [(.int .i64 0)] 3 [(0, (.c (.int .i64 1))), (1, (.c (.int .i64 2))), (2, (.c (.int .i64 4)))]), none, .full⟩, ⟨(some 16), (.bslice 1 [(.int .i64 0)] 4 [(0, (.c (.int .i64 0))), (1, (.c (.int .i64 1))), (2, (.c (.int .i64 2))), (3, (.c (.int .i64 3)))]), none, .full⟩, ⟨(some 17), (.bslice 1 [(.int .i64 0)] 4 [(0, (.c (.int .i64 0))), (1, (.c (.int .i64 2))), (2, (.c (.int .i64 3))), (3, (.c (.int .i64 5)))]), none, .full⟩, ⟨(some 18), (.bslice 1 [(.int .i64 0)] 5 [(0, (.c (.int .i64 0))), (1, (.c (.int .i64 1))), (2, (.c (.int .i64 2))), (3, (.c (.int .i64 3))), (4, (.c (.int .i64 4)))]), none, .full⟩, ⟨(some 19), (.bslice 1 [(.int .i64 0)] 5 [(0, (.c (.int .i64 1))), (1, (.c (.int .i64 2))), (2, (.c (.int .i64 3))), (3, (.c (.int .i64 4))), (4, (.c (.int .i64 5)))]), none, .full⟩, ⟨(some 20), (.bslice 1 [(.sl [])] 6 [(0, (.t 14)), (1, (.t 15)), (2, (.t 16)), (3, (.t 17)), (4, (.t 18)), (5, (.t 19))]), none, .full⟩, ⟨(some 21), (.mov (.t 0)), none, .full⟩, ⟨(some 22), (.call 11 0 [] [(.t 21), (.c (.int .i64 1))]), none, .full⟩, ⟨(some 23), (.bin false .rem (.t 22) (.c (.int .i64 6))), none, .full⟩, ⟨(some 24), (.iaddr 1 (.t 20) (.t 23)), none, .full⟩, ⟨(some 25), (.load 1 false (.t 24)), none, .full⟩, ⟨(some 4), (.mov (.t 25)), none, .full⟩])
 (.seq (.reg [⟨(some 26), (.faddr 1 (.t 3)), none, .full⟩, ⟨(some 27), (.load 1 false (.t 26)), none, .full⟩, ⟨(some 28), (.mov (.t 4)), none, .full⟩, ⟨(some 29), (.app 1 false (.t 27) (.t 28)), none, .full⟩, ⟨(some 30), (.faddr 1 (.t 3)), none, .full⟩, ⟨none, (.store 1 (.t 30) (.t 29)), none, .full⟩])
 (.seq (.seq (.reg [⟨(some 5), (.mov (.c (.int .i64 0))), none, .full⟩])
 (.block 0 (.loop L4_0)))
 (.seq (.seq (.reg [⟨(some 6), (.mov (.c (.int .i64 0))), none, .full⟩])
 (.block 2 (.loop L4_1)))
 (.seq (.reg [⟨(some 112), (.load 5 true (.t 3)), none, .full⟩, ⟨none, (.store 5 (.t 2) (.t 112)), none, .full⟩])
 .ret)))))))⟩
theorem ok4 : ∃ fn hh, Try.prog.funcs[4]? = some fn ∧ (∀ vals w, (callFunc 4 vals).run Try.prog w = .ok (.enter 4 vals) w) ∧ comp Try.prog hh fn = some F4 :=
  ⟨_, hintOf [], Try.func4, Try.call4, by kernel_rfl⟩
def L5_0 : TCode := (.seq (.seq (.reg [⟨(some 11), (.mov (.t 6)), none, .full⟩, ⟨(some 12), (.faddr 0 (.t 2)), none, .full⟩, ⟨(some 13), (.load 1 false (.t 12)), none, .full⟩, ⟨(some 14), (.bin false .lss (.t 11) (.t 13)), none, .full⟩])
 (.cond (.t 14)
 .skip
 (.exit 0)))
 (.seq (.block 1 (.reg [⟨(some 17), (.faddr 0 (.t 5)), none, .none⟩, ⟨(some 18), (.load 1 false (.t 17)), none, (.box 5)⟩, ⟨(some 19), (.call 6 0 [] [(.c (.int .i64 3))]), none, (.rd [])⟩, ⟨(some 20), (.mov (.t 1)), none, .none⟩, ⟨(some 21), (.mov (.t 6)), none, .none⟩, ⟨(some 22), (.call 11 0 [] [(.t 20), (.t 21)]), none, (.rd [])⟩, ⟨(some 23), (.call 14 0 [] [(.t 22)]), none, (.rd [])⟩, ⟨(some 24), (.call 13 0 [] [(.t 19), (.t 23)]), none, (.rd [])⟩, ⟨(some 25), (.bslice 4 [(.bool false), (.sl []), (.bool false), (.sl [])] 1 [(0, (.t 24))]), none, .none⟩, ⟨(some 26), (.app 4 false (.t 18) (.t 25)), none, (.fb [])⟩, ⟨(some 27), (.faddr 0 (.t 5)), none, .none⟩, ⟨none, (.store 1 (.t 27) (.t 26)), none, (.box 5)⟩]))
 (.reg [⟨(some 15), (.mov (.t 6)), none, .full⟩, ⟨(some 16), (.bin false .add (.t 15) (.c (.int .i64 1))), none, .full⟩, ⟨(some 6), (.mov (.t 16)), none, .full⟩])))
def L5_1 : TCode := (.seq (.seq (.reg [⟨(some 31), (.mov (.t 7)), none, .full⟩, ⟨(some 32), (.faddr 4 (.t 2)), none, .full⟩, ⟨(some 33), (.load 1 false (.t 32)), none, .full⟩, ⟨(some 34), (.len false (.t 33)), none, .full⟩, ⟨(some 35), (.bin false .lss (.t 31) (.t 34)), none, .full⟩])
 (.cond (.t 35)
 .skip
 (.exit 2)))
 (.seq (.block 3 (.seq (.reg [⟨(some 38), (.mov (.t 1)), none, .full⟩, ⟨(some 39), (.mov (.t 7)), none, .full⟩, ⟨(some 40), (.bin false .add (.c (.int .i64 10)) (.t 39)), none, .full⟩, ⟨(some 41), (.call 11 0 [] [(.t 38), (.t 40)]), none, .full⟩, ⟨(some 42), (.call 14 0 [] [(.t 41)]), none, .full⟩, ⟨(some 8), (.alloc [(.bool false), .nils, (.bool false), .nils]), none, .full⟩, ⟨none, (.store 4 (.t 8) (.t 42)), none, .full⟩])
 (.seq (.seq (.reg [⟨(some 43), (.load 4 true (.t 8)), none, .full⟩, ⟨(some 44), (.call 15 0 [] [(.t 43)]), none, .full⟩, ⟨(some 45), (.bin false .gtr (.t 44) (.c (.int .i64 0))), none, .full⟩])
 (.cond (.t 45)
 (.reg [⟨(some 46), (.load 4 true (.t 8)), none, .full⟩, ⟨(some 47), (.call 16 0 [] [(.t 46)]), none, .full⟩, ⟨none, (.store 4 (.t 8) (.t 47)), none, .full⟩])
 .skip))
 (.reg [⟨(some 48), (.faddr 2 (.t 5)), none, .full⟩, ⟨(some 49), (.load 1 false (.t 48)), none, .full⟩, ⟨(some 50), (.load 4 true (.t 8)), none, .full⟩, ⟨(some 51), (.bslice 4 [(.bool false), (.sl []), (.bool false), (.sl [])] 1 [(0, (.t 50))]), none, .full⟩, ⟨(some 52), (.app 4 true (.t 49) (.t 51)), none, .full⟩, ⟨(some 53), (.faddr 2 (.t 5)), none, .full⟩, ⟨none, (.store 1 (.t 53) (.t 52)), none, .full⟩]))))
 (.reg [⟨(some 36), (.mov (.t 7)), none, .full⟩, ⟨(some 37), (.bin false .add (.t 36) (.c (.int .i64 1))), none, .full⟩, ⟨(some 7), (.mov (.t 37)), none, .full⟩])))
def L5_2 : TCode := (.seq (.seq (.reg [⟨(some 54), (.mov (.t 9)), none, .full⟩, ⟨(some 55), (.mov (.t 1)), none, .full⟩, ⟨(some 56), (.call 11 0 [] [(.t 55), (.c (.int .i64 20))]), none, .full⟩, ⟨(some 57), (.bin false .rem (.t 56) (.c (.int .i64 3))), none, .full⟩, ⟨(some 58), (.bin false .lss (.t 54) (.t 57)), none, .full⟩])
 (.cond (.t 58)
 .skip
 (.exit 4)))
 (.seq (.block 5 (.seq (.reg [⟨(some 61), (.mov (.t 1)), none, .full⟩, ⟨(some 62), (.mov (.t 9)), none, .full⟩, ⟨(some 63), (.bin false .add (.c (.int .i64 21)) (.t 62)), none, .full⟩, ⟨(some 64), (.call 11 0 [] [(.t 61), (.t 63)]), none, .full⟩, ⟨(some 10), (.mov (.t 64)), none, .full⟩])
 (.seq (.reg [⟨(some 65), (.mov (.t 10)), none, .full⟩, ⟨(some 66), (.bin false .rem (.t 65) (.c (.int .i64 6))), none, .full⟩, ⟨(some 67), (.mov (.t 10)), none, .full⟩, ⟨(some 68), (.bin false .shr (.t 67) (.c (.int .u64 3))), none, .full⟩, ⟨(some 69), (.bin false .rem (.t 68) (.c (.int .i64 6))), none, .full⟩, ⟨(some 70), (.bin false .neq (.t 66) (.t 69)), none, .full⟩])
 (.cond (.t 70)
 (.reg [⟨(some 71), (.faddr 3 (.t 5)), none, .full⟩, ⟨(some 72), (.load 1 false (.t 71)), none, .full⟩, ⟨(some 73), (.mov (.t 10)), none, .full⟩, ⟨(some 74), (.bin false .rem (.t 73) (.c (.int .i64 6))), none, .full⟩, ⟨(some 75), (.mov (.t 10)), none, .full⟩, ⟨(some 76), (.bin false .shr (.t 75) (.c (.int .u64 3))), none, .full⟩, ⟨(some 77), (.bin false .rem (.t 76) (.c (.int .i64 6))), none, .full⟩, ⟨(some 78), (.mov (.t 10)), none, .full⟩, ⟨(some 79), (.bin false .shr (.t 78) (.c (.int .u64 6))), none, .full⟩, ⟨(some 80), (.bin false .and (.t 79) (.c (.int .i64 1))), none, .full⟩, ⟨(some 81), (.bin false .eql (.t 80) (.c (.int .i64 1))), none, .full⟩, ⟨(some 82), (.build [(.int .i64 0), (.int .i64 0), (.bool false)] [(0, (1, (.t 74))), (1, (1, (.t 77))), (2, (1, (.t 81)))]), none, .full⟩, ⟨(some 83), (.bslice 3 [(.int .i64 0), (.int .i64 0), (.bool false)] 1 [(0, (.t 82))]), none, .full⟩, ⟨(some 84), (.app 3 false (.t 72) (.t 83)), none, .full⟩, ⟨(some 85), (.faddr 3 (.t 5)), none, .full⟩, ⟨none, (.store 1 (.t 85) (.t 84)), none, .full⟩])
 .skip))))
 (.reg [⟨(some 59), (.mov (.t 9)), none, .full⟩, ⟨(some 60), (.bin false .add (.t 59) (.c (.int .i64 1))), none, .full⟩, ⟨(some 9), (.mov (.t 60)), none, .full⟩])))
def F5 : TFunc := ⟨2, 87, [(.cell 4 5 true)],
 (.seq (.reg [⟨(some 2), (.box 5 (.t 0)), none, .full⟩, ⟨(some 4), (.alloc [.nils, .nils, .nils, .nils, (.bool false)]), none, .full⟩])
 (.seq (.reg [⟨(some 5), (.alloc [.nils, .nils, .nils, .nils, (.bool false)]), none, .full⟩])
 (.seq (.seq (.reg [⟨(some 6), (.mov (.c (.int .i64 0))), none, .full⟩])
 (.block 0 (.loop L5_0)))
 (.seq (.reg [⟨(some 28), (.faddr 4 (.t 2)), none, .full⟩, ⟨(some 29), (.load 1 false (.t 28)), none, .full⟩, ⟨(some 30), (.faddr 1 (.t 5)), none, .full⟩, ⟨none, (.store 1 (.t 30) (.t 29)), none, .full⟩])
 (.seq (.seq (.reg [⟨(some 7), (.mov (.c (.int .i64 0))), none, .full⟩])
 (.block 2 (.loop L5_1)))
 (.seq (.seq (.reg [⟨(some 9), (.mov (.c (.int .i64 0))), none, .full⟩])
 (.block 4 (.loop L5_2)))
 (.seq (.reg [⟨(some 86), (.load 5 true (.t 5)), none, .full⟩, ⟨none, (.store 5 (.t 4) (.t 86)), none, .full⟩])
 .ret)))))))⟩
theorem ok5 : ∃ fn hh, Try.prog.funcs[5]? = some fn ∧ (∀ vals w, (callFunc 5 vals).run Try.prog w = .ok (.enter 5 vals) w) ∧ comp Try.prog hh fn = some F5 :=
  ⟨_, hintOf [(52, 1, [])], Try.func5, Try.call5, by kernel_rfl⟩
def F6 : TFunc := ⟨1, 7, [(.cell 2 4 true)],
 (.seq (.reg [⟨(some 2), (.alloc [(.bool false), .nils, (.bool false), .nils]), none, .full⟩])
 (.seq (.reg [⟨(some 3), (.mov (.t 0)), none, .full⟩, ⟨(some 4), (.call 18 0 [] [(.t 3)]), none, .full⟩, ⟨(some 5), (.call 18 0 [] [(.c (.int .i64 1))]), none, .full⟩, ⟨(some 6), (.call 17 0 [] [(.t 4), (.t 5)]), none, .full⟩, ⟨none, (.store 4 (.t 2) (.t 6)), none, .full⟩])
 .ret))⟩
theorem ok6 : ∃ fn hh, Try.prog.funcs[6]? = some fn ∧ (∀ vals w, (callFunc 6 vals).run Try.prog w = .ok (.enter 6 vals) w) ∧ comp Try.prog hh fn = some F6 :=
  ⟨_, hintOf [], Try.func6, Try.call6, by kernel_rfl⟩
def L7_0 : TCode := (.seq (.reg [⟨(some 81), (.bin false .lss (.t 80) (.t 79)), none, .full⟩])
 (.seq (.cond (.t 81)
 .skip
 (.exit 0))
 (.seq (.block 1 (.seq (.reg [⟨(some 82), (.mov (.t 80)), none, .full⟩, ⟨(some 15), (.mov (.t 82)), none, .full⟩])
 (.reg [⟨(some 83), (.faddr 0 (.t 14)), none, .none⟩, ⟨(some 84), (.load 1 false (.t 83)), none, (.box 14)⟩, ⟨(some 85), (.mov (.t 15)), none, .none⟩, ⟨(some 86), (.load 4 true (.t 10)), none, (.box 10)⟩, ⟨(some 87), (.faddr 0 (.t 4)), none, .none⟩, ⟨(some 88), (.load 1 false (.t 87)), none, (.box 4)⟩, ⟨(some 89), (.mov (.t 15)), none, .none⟩, ⟨(some 90), (.iaddr 4 (.t 88) (.t 89)), none, .none⟩, ⟨(some 91), (.load 4 true (.t 90)), none, (.rd [])⟩, ⟨(some 92), (.call 23 0 [] [(.t 86), (.t 91)]), none, (.rd [])⟩, ⟨(some 93), (.load 4 true (.t 12)), none, (.box 12)⟩, ⟨(some 94), (.faddr 0 (.t 5)), none, .none⟩, ⟨(some 95), (.load 1 false (.t 94)), none, (.box 5)⟩, ⟨(some 96), (.mov (.t 15)), none, .none⟩, ⟨(some 97), (.iaddr 4 (.t 95) (.t 96)), none, .none⟩, ⟨(some 98), (.load 4 true (.t 97)), none, (.rd [])⟩, ⟨(some 99), (.call 23 0 [] [(.t 93), (.t 98)]), none, (.rd [])⟩, ⟨(some 100), (.call 22 0 [] [(.t 92), (.t 99)]), none, (.rd [])⟩, ⟨(some 101), (.iaddr 4 (.t 84) (.t 85)), none, .none⟩, ⟨none, (.store 4 (.t 101) (.t 100)), none, .full⟩])))
 (.reg [⟨(some 102), (.bin false .add (.t 80) (.c (.int .i64 1))), none, .full⟩, ⟨(some 80), (.mov (.t 102)), none, .full⟩]))))
def L7_1 : TCode := (.seq (.reg [⟨(some 107), (.bin false .lss (.t 106) (.t 105)), none, .full⟩])
 (.seq (.cond (.t 107)
 .skip
 (.exit 2))
 (.seq (.block 3 (.seq (.reg [⟨(some 108), (.mov (.t 106)), none, .full⟩, ⟨(some 16), (.mov (.t 108)), none, .full⟩])
 (.reg [⟨(some 109), (.faddr 2 (.t 14)), none, .none⟩, ⟨(some 110), (.load 1 false (.t 109)), none, (.box 14)⟩, ⟨(some 111), (.mov (.t 16)), none, .none⟩, ⟨(some 112), (.load 4 true (.t 10)), none, (.box 10)⟩, ⟨(some 113), (.faddr 2 (.t 4)), none, .none⟩, ⟨(some 114), (.load 1 false (.t 113)), none, (.box 4)⟩, ⟨(some 115), (.mov (.t 16)), none, .none⟩, ⟨(some 116), (.iaddr 4 (.t 114) (.t 115)), none, .none⟩, ⟨(some 117), (.load 4 true (.t 116)), none, (.rd [])⟩, ⟨(some 118), (.call 23 0 [] [(.t 112), (.t 117)]), none, (.rd [])⟩, ⟨(some 119), (.load 4 true (.t 12)), none, (.box 12)⟩, ⟨(some 120), (.faddr 2 (.t 5)), none, .none⟩, ⟨(some 121), (.load 1 false (.t 120)), none, (.box 5)⟩, ⟨(some 122), (.mov (.t 16)), none, .none⟩, ⟨(some 123), (.iaddr 4 (.t 121) (.t 122)), none, .none⟩, ⟨(some 124), (.load 4 true (.t 123)), none, (.rd [])⟩, ⟨(some 125), (.call 23 0 [] [(.t 119), (.t 124)]), none, (.rd [])⟩, ⟨(some 126), (.call 22 0 [] [(.t 118), (.t 125)]), none, (.rd [])⟩, ⟨(some 127), (.iaddr 4 (.t 110) (.t 111)), none, .none⟩, ⟨none, (.store 4 (.t 127) (.t 126)), none, .full⟩])))
 (.reg [⟨(some 128), (.bin false .add (.t 106) (.c (.int .i64 1))), none, .full⟩, ⟨(some 106), (.mov (.t 128)), none, .full⟩]))))
def F7 : TFunc := ⟨4, 130, [(.cell 8 5 true), (.tmp 9)],
 (.seq (.reg [⟨(some 4), (.box 5 (.t 0)), none, .full⟩, ⟨(some 5), (.box 5 (.t 1)), none, .full⟩, ⟨(some 8), (.alloc [.nils, .nils, .nils, .nils, (.bool false)]), none, .full⟩, ⟨(some 9), (.mov (.c (.int .i64 0))), none, .full⟩])
 (.seq (.seq (.reg [⟨(some 17), (.mov (.t 3)), none, .full⟩, ⟨(some 18), (.bin false .lss (.t 17) (.c (.int .i64 1))), none, .full⟩, ⟨(some 19), (.mov (.t 18)), none, .full⟩, ⟨(some 20), (.mov (.t 2)), (some (19, false)), .full⟩, ⟨(some 21), (.bin false .lss (.t 20) (.c (.int .i64 0))), (some (19, false)), .full⟩, ⟨(some 22), (.pick (.t 19) (.c (.bool true)) (.t 21)), none, .full⟩, ⟨(some 23), (.mov (.t 22)), none, .full⟩, ⟨(some 24), (.mov (.t 2)), (some (23, false)), .full⟩, ⟨(some 25), (.mov (.t 3)), (some (23, false)), .full⟩, ⟨(some 26), (.bin false .gtr (.t 24) (.t 25)), (some (23, false)), .full⟩, ⟨(some 27), (.pick (.t 23) (.c (.bool true)) (.t 26)), none, .full⟩])
 (.cond (.t 27)
 (.seq (.reg [⟨(some 28), (.build [.nils, .nils, .nils, .nils, (.bool false)] []), none, .full⟩, ⟨none, (.store 5 (.t 8) (.t 28)), none, .full⟩, ⟨(some 9), (.mov (.c (.int .i64 5))), none, .full⟩])
 .ret)
 .skip))
 (.seq (.seq (.reg [⟨(some 29), (.faddr 0 (.t 4)), none, .full⟩, ⟨(some 30), (.load 1 false (.t 29)), none, .full⟩, ⟨(some 31), (.len false (.t 30)), none, .full⟩, ⟨(some 32), (.faddr 0 (.t 5)), none, .full⟩, ⟨(some 33), (.load 1 false (.t 32)), none, .full⟩, ⟨(some 34), (.len false (.t 33)), none, .full⟩, ⟨(some 35), (.bin false .neq (.t 31) (.t 34)), none, .full⟩, ⟨(some 36), (.mov (.t 35)), none, .full⟩, ⟨(some 37), (.faddr 2 (.t 4)), (some (36, false)), .full⟩, ⟨(some 38), (.load 1 false (.t 37)), (some (36, false)), .full⟩, ⟨(some 39), (.len false (.t 38)), (some (36, false)), .full⟩, ⟨(some 40), (.faddr 1 (.t 4)), (some (36, false)), .full⟩, ⟨(some 41), (.load 1 false (.t 40)), (some (36, false)), .full⟩, ⟨(some 42), (.len false (.t 41)), (some (36, false)), .full⟩, ⟨(some 43), (.bin false .neq (.t 39) (.t 42)), (some (36, false)), .full⟩, ⟨(some 44), (.pick (.t 36) (.c (.bool true)) (.t 43)), none, .full⟩, ⟨(some 45), (.mov (.t 44)), none, .full⟩, ⟨(some 46), (.faddr 2 (.t 5)), (some (45, false)), .full⟩, ⟨(some 47), (.load 1 false (.t 46)), (some (45, false)), .full⟩, ⟨(some 48), (.len false (.t 47)), (some (45, false)), .full⟩, ⟨(some 49), (.faddr 1 (.t 4)), (some (45, false)), .full⟩, ⟨(some 50), (.load 1 false (.t 49)), (some (45, false)), .full⟩, ⟨(some 51), (.len false (.t 50)), (some (45, false)), .full⟩, ⟨(some 52), (.bin false .neq (.t 48) (.t 51)), (some (45, false)), .full⟩, ⟨(some 53), (.pick (.t 45) (.c (.bool true)) (.t 52)), none, .full⟩, ⟨(some 54), (.mov (.t 53)), none, .full⟩, ⟨(some 55), (.load 5 true (.t 4)), (some (54, false)), .full⟩, ⟨(some 56), (.load 5 true (.t 5)), (some (54, false)), .full⟩, ⟨(some 57), (.call 19 0 [] [(.t 55), (.t 56)]), (some (54, false)), .full⟩, ⟨(some 58), (.un .not (.t 57)), (some (54, false)), .full⟩, ⟨(some 59), (.pick (.t 54) (.c (.bool true)) (.t 58)), none, .full⟩])
 (.cond (.t 59)
 (.seq (.reg [⟨(some 60), (.build [.nils, .nils, .nils, .nils, (.bool false)] []), none, .full⟩, ⟨none, (.store 5 (.t 8) (.t 60)), none, .full⟩, ⟨(some 9), (.mov (.c (.int .i64 12))), none, .full⟩])
 .ret)
 .skip))
 (.seq (.reg [⟨(some 62), (.mov (.t 2)), none, .full⟩, ⟨(some 63), (.mov (.t 3)), none, .full⟩, ⟨(some 64), (.call 20 0 [] [(.t 62), (.t 63)]), none, .full⟩, ⟨(some 61), (.mov (.t 64)), none, .full⟩, ⟨(some 65), (.extract (.t 61) 0), none, .full⟩, ⟨(some 66), (.extract (.t 61) 1), none, .full⟩, ⟨(some 10), (.alloc [(.bool false), .nils, (.bool false), .nils]), none, .full⟩, ⟨none, (.store 4 (.t 10) (.t 65)), none, .full⟩, ⟨(some 11), (.mov (.t 66)), none, .full⟩])
 (.seq (.reg [⟨(some 68), (.mov (.t 3)), none, .full⟩, ⟨(some 69), (.mov (.t 2)), none, .full⟩, ⟨(some 70), (.bin false .sub (.t 68) (.t 69)), none, .full⟩, ⟨(some 71), (.mov (.t 3)), none, .full⟩, ⟨(some 72), (.call 20 0 [] [(.t 70), (.t 71)]), none, .full⟩, ⟨(some 67), (.mov (.t 72)), none, .full⟩, ⟨(some 73), (.extract (.t 67) 0), none, .full⟩, ⟨(some 74), (.extract (.t 67) 1), none, .full⟩, ⟨(some 12), (.alloc [(.bool false), .nils, (.bool false), .nils]), none, .full⟩, ⟨none, (.store 4 (.t 12) (.t 73)), none, .full⟩, ⟨(some 13), (.mov (.t 74)), none, .full⟩])
 (.seq (.reg [⟨(some 75), (.load 5 true (.t 4)), none, .full⟩, ⟨(some 76), (.call 21 1 [] [(.t 75)]), none, .full⟩, ⟨(some 14), (.alloc [.nils, .nils, .nils, .nils, (.bool false)]), none, .full⟩, ⟨none, (.store 5 (.t 14) (.t 76)), none, .full⟩])
 (.seq (.seq (.reg [⟨(some 77), (.faddr 0 (.t 14)), none, .full⟩, ⟨(some 78), (.load 1 false (.t 77)), none, .full⟩, ⟨(some 79), (.len false (.t 78)), none, .full⟩, ⟨(some 80), (.mov (.c (.int .i64 0))), none, .full⟩])
 (.block 0 (.loop L7_0)))
 (.seq (.seq (.reg [⟨(some 103), (.faddr 2 (.t 14)), none, .full⟩, ⟨(some 104), (.load 1 false (.t 103)), none, .full⟩, ⟨(some 105), (.len false (.t 104)), none, .full⟩, ⟨(some 106), (.mov (.c (.int .i64 0))), none, .full⟩])
 (.block 2 (.loop L7_1)))
 (.seq (.reg [⟨(some 129), (.load 5 true (.t 14)), none, .full⟩, ⟨none, (.store 5 (.t 8) (.t 129)), none, .full⟩, ⟨(some 9), (.mov (.c (.int .i64 0))), none, .full⟩])
 .ret)))))))))⟩
theorem ok7 : ∃ fn hh, Try.prog.funcs[7]? = some fn ∧ (∀ vals w, (callFunc 7 vals).run Try.prog w = .ok (.enter 7 vals) w) ∧ comp Try.prog hh fn = some F7 :=
  ⟨_, hintOf [(76, 1, [])], Try.func7, Try.call7, by kernel_rfl⟩
def L8_0 : TCode := (.seq (.seq (.reg [⟨(some 91), (.mov (.t 13)), none, .full⟩, ⟨(some 92), (.faddr 0 (.t 4)), none, .full⟩, ⟨(some 93), (.load 1 false (.t 92)), none, .full⟩, ⟨(some 94), (.len false (.t 93)), none, .full⟩, ⟨(some 95), (.bin false .lss (.t 91) (.t 94)), none, .full⟩])
 (.cond (.t 95)
 .skip
 (.exit 0)))
 (.seq (.block 1 (.reg [⟨(some 98), (.faddr 0 (.t 12)), none, .none⟩, ⟨(some 99), (.load 1 false (.t 98)), none, (.box 12)⟩, ⟨(some 100), (.load 4 true (.t 10)), none, (.box 10)⟩, ⟨(some 101), (.faddr 0 (.t 4)), none, .none⟩, ⟨(some 102), (.load 1 false (.t 101)), none, (.box 4)⟩, ⟨(some 103), (.mov (.t 13)), none, .none⟩, ⟨(some 104), (.iaddr 4 (.t 102) (.t 103)), none, .none⟩, ⟨(some 105), (.load 4 true (.t 104)), none, (.rd [])⟩, ⟨(some 106), (.call 13 0 [] [(.t 100), (.t 105)]), none, (.rd [])⟩, ⟨(some 107), (.load 4 true (.t 11)), none, (.box 11)⟩, ⟨(some 108), (.faddr 0 (.t 5)), none, .none⟩, ⟨(some 109), (.load 1 false (.t 108)), none, (.box 5)⟩, ⟨(some 110), (.mov (.t 13)), none, .none⟩, ⟨(some 111), (.iaddr 4 (.t 109) (.t 110)), none, .none⟩, ⟨(some 112), (.load 4 true (.t 111)), none, (.rd [])⟩, ⟨(some 113), (.call 13 0 [] [(.t 107), (.t 112)]), none, (.rd [])⟩, ⟨(some 114), (.call 28 0 [] [(.t 106), (.t 113)]), none, (.rd [])⟩, ⟨(some 115), (.bslice 4 [(.bool false), (.sl []), (.bool false), (.sl [])] 1 [(0, (.t 114))]), none, .none⟩, ⟨(some 116), (.app 4 false (.t 99) (.t 115)), none, (.fb [])⟩, ⟨(some 117), (.faddr 0 (.t 12)), none, .none⟩, ⟨none, (.store 1 (.t 117) (.t 116)), none, (.box 12)⟩]))
 (.reg [⟨(some 96), (.mov (.t 13)), none, .full⟩, ⟨(some 97), (.bin false .add (.t 96) (.c (.int .i64 1))), none, .full⟩, ⟨(some 13), (.mov (.t 97)), none, .full⟩])))
def L8_1 : TCode := (.seq (.seq (.reg [⟨(some 118), (.mov (.t 14)), none, .full⟩, ⟨(some 119), (.faddr 2 (.t 4)), none, .full⟩, ⟨(some 120), (.load 1 false (.t 119)), none, .full⟩, ⟨(some 121), (.len false (.t 120)), none, .full⟩, ⟨(some 122), (.bin false .lss (.t 118) (.t 121)), none, .full⟩])
 (.cond (.t 122)
 .skip
 (.exit 2)))
 (.seq (.block 3 (.reg [⟨(some 125), (.faddr 2 (.t 12)), none, .none⟩, ⟨(some 126), (.load 1 false (.t 125)), none, (.box 12)⟩, ⟨(some 127), (.load 4 true (.t 10)), none, (.box 10)⟩, ⟨(some 128), (.faddr 2 (.t 4)), none, .none⟩, ⟨(some 129), (.load 1 false (.t 128)), none, (.box 4)⟩, ⟨(some 130), (.mov (.t 14)), none, .none⟩, ⟨(some 131), (.iaddr 4 (.t 129) (.t 130)), none, .none⟩, ⟨(some 132), (.load 4 true (.t 131)), none, (.rd [])⟩, ⟨(some 133), (.call 13 0 [] [(.t 127), (.t 132)]), none, (.rd [])⟩, ⟨(some 134), (.load 4 true (.t 11)), none, (.box 11)⟩, ⟨(some 135), (.faddr 2 (.t 5)), none, .none⟩, ⟨(some 136), (.load 1 false (.t 135)), none, (.box 5)⟩, ⟨(some 137), (.mov (.t 14)), none, .none⟩, ⟨(some 138), (.iaddr 4 (.t 136) (.t 137)), none, .none⟩, ⟨(some 139), (.load 4 true (.t 138)), none, (.rd [])⟩, ⟨(some 140), (.call 13 0 [] [(.t 134), (.t 139)]), none, (.rd [])⟩, ⟨(some 141), (.call 28 0 [] [(.t 133), (.t 140)]), none, (.rd [])⟩, ⟨(some 142), (.bslice 4 [(.bool false), (.sl []), (.bool false), (.sl [])] 1 [(0, (.t 141))]), none, .none⟩, ⟨(some 143), (.app 4 false (.t 126) (.t 142)), none, (.fb [])⟩, ⟨(some 144), (.faddr 2 (.t 12)), none, .none⟩, ⟨none, (.store 1 (.t 144) (.t 143)), none, (.box 12)⟩]))
 (.reg [⟨(some 123), (.mov (.t 14)), none, .full⟩, ⟨(some 124), (.bin false .add (.t 123) (.c (.int .i64 1))), none, .full⟩, ⟨(some 14), (.mov (.t 124)), none, .full⟩])))
def F8 : TFunc := ⟨4, 146, [(.cell 8 5 true), (.tmp 9)],
 (.seq (.reg [⟨(some 4), (.box 5 (.t 0)), none, .full⟩, ⟨(some 5), (.box 5 (.t 1)), none, .full⟩, ⟨(some 8), (.alloc [.nils, .nils, .nils, .nils, (.bool false)]), none, .full⟩, ⟨(some 9), (.mov (.c (.int .i64 0))), none, .full⟩])
 (.seq (.seq (.reg [⟨(some 15), (.mov (.t 3)), none, .full⟩, ⟨(some 16), (.bin false .lss (.t 15) (.c (.int .i64 1))), none, .full⟩, ⟨(some 17), (.mov (.t 16)), none, .full⟩, ⟨(some 18), (.mov (.t 2)), (some (17, false)), .full⟩, ⟨(some 19), (.bin false .lss (.t 18) (.c (.int .i64 0))), (some (17, false)), .full⟩, ⟨(some 20), (.pick (.t 17) (.c (.bool true)) (.t 19)), none, .full⟩, ⟨(some 21), (.mov (.t 20)), none, .full⟩, ⟨(some 22), (.mov (.t 2)), (some (21, false)), .full⟩, ⟨(some 23), (.mov (.t 3)), (some (21, false)), .full⟩, ⟨(some 24), (.bin false .gtr (.t 22) (.t 23)), (some (21, false)), .full⟩, ⟨(some 25), (.pick (.t 21) (.c (.bool true)) (.t 24)), none, .full⟩])
 (.cond (.t 25)
 (.seq (.reg [⟨(some 26), (.build [.nils, .nils, .nils, .nils, (.bool false)] []), none, .full⟩, ⟨none, (.store 5 (.t 8) (.t 26)), none, .full⟩, ⟨(some 9), (.mov (.c (.int .i64 5))), none, .full⟩])
 .ret)
 .skip))
 (.seq (.seq (.reg [⟨(some 27), (.faddr 0 (.t 4)), none, .full⟩, ⟨(some 28), (.load 1 false (.t 27)), none, .full⟩, ⟨(some 29), (.len false (.t 28)), none, .full⟩, ⟨(some 30), (.faddr 0 (.t 5)), none, .full⟩, ⟨(some 31), (.load 1 false (.t 30)), none, .full⟩, ⟨(some 32), (.len false (.t 31)), none, .full⟩, ⟨(some 33), (.bin false .neq (.t 29) (.t 32)), none, .full⟩, ⟨(some 34), (.mov (.t 33)), none, .full⟩, ⟨(some 35), (.faddr 2 (.t 4)), (some (34, false)), .full⟩, ⟨(some 36), (.load 1 false (.t 35)), (some (34, false)), .full⟩, ⟨(some 37), (.len false (.t 36)), (some (34, false)), .full⟩, ⟨(some 38), (.faddr 1 (.t 4)), (some (34, false)), .full⟩, ⟨(some 39), (.load 1 false (.t 38)), (some (34, false)), .full⟩, ⟨(some 40), (.len false (.t 39)), (some (34, false)), .full⟩, ⟨(some 41), (.bin false .neq (.t 37) (.t 40)), (some (34, false)), .full⟩, ⟨(some 42), (.pick (.t 34) (.c (.bool true)) (.t 41)), none, .full⟩, ⟨(some 43), (.mov (.t 42)), none, .full⟩, ⟨(some 44), (.faddr 2 (.t 5)), (some (43, false)), .full⟩, ⟨(some 45), (.load 1 false (.t 44)), (some (43, false)), .full⟩, ⟨(some 46), (.len false (.t 45)), (some (43, false)), .full⟩, ⟨(some 47), (.faddr 1 (.t 4)), (some (43, false)), .full⟩, ⟨(some 48), (.load 1 false (.t 47)), (some (43, false)), .full⟩, ⟨(some 49), (.len false (.t 48)), (some (43, false)), .full⟩, ⟨(some 50), (.bin false .neq (.t 46) (.t 49)), (some (43, false)), .full⟩, ⟨(some 51), (.pick (.t 43) (.c (.bool true)) (.t 50)), none, .full⟩, ⟨(some 52), (.mov (.t 51)), none, .full⟩, ⟨(some 53), (.faddr 1 (.t 4)), (some (52, false)), .full⟩, ⟨(some 54), (.load 1 false (.t 53)), (some (52, false)), .full⟩, ⟨(some 55), (.faddr 1 (.t 5)), (some (52, false)), .full⟩, ⟨(some 56), (.load 1 false (.t 55)), (some (52, false)), .full⟩, ⟨(some 57), (.call 24 0 [] [(.t 54), (.t 56)]), (some (52, false)), .full⟩, ⟨(some 58), (.un .not (.t 57)), (some (52, false)), .full⟩, ⟨(some 59), (.pick (.t 52) (.c (.bool true)) (.t 58)), none, .full⟩, ⟨(some 60), (.mov (.t 59)), none, .full⟩, ⟨(some 61), (.faddr 3 (.t 4)), (some (60, false)), .full⟩, ⟨(some 62), (.load 1 false (.t 61)), (some (60, false)), .full⟩, ⟨(some 63), (.faddr 3 (.t 5)), (some (60, false)), .full⟩, ⟨(some 64), (.load 1 false (.t 63)), (some (60, false)), .full⟩, ⟨(some 65), (.call 25 0 [] [(.t 62), (.t 64)]), (some (60, false)), .full⟩, ⟨(some 66), (.un .not (.t 65)), (some (60, false)), .full⟩, ⟨(some 67), (.pick (.t 60) (.c (.bool true)) (.t 66)), none, .full⟩, ⟨(some 68), (.mov (.t 67)), none, .full⟩, ⟨(some 69), (.faddr 4 (.t 4)), (some (68, false)), .full⟩, ⟨(some 70), (.load 1 false (.t 69)), (some (68, false)), .full⟩, ⟨(some 71), (.faddr 4 (.t 5)), (some (68, false)), .full⟩, ⟨(some 72), (.load 1 false (.t 71)), (some (68, false)), .full⟩, ⟨(some 73), (.bin true .neq (.t 70) (.t 72)), (some (68, false)), .full⟩, ⟨(some 74), (.pick (.t 68) (.c (.bool true)) (.t 73)), none, .full⟩])
 (.cond (.t 74)
 (.seq (.reg [⟨(some 75), (.build [.nils, .nils, .nils, .nils, (.bool false)] []), none, .full⟩, ⟨none, (.store 5 (.t 8) (.t 75)), none, .full⟩, ⟨(some 9), (.mov (.c (.int .i64 12))), none, .full⟩])
 .ret)
 .skip))
 (.seq (.reg [⟨(some 76), (.mov (.t 2)), none, .full⟩, ⟨(some 77), (.call 6 0 [] [(.t 76)]), none, .full⟩, ⟨(some 78), (.mov (.t 3)), none, .full⟩, ⟨(some 79), (.call 6 0 [] [(.t 78)]), none, .full⟩, ⟨(some 80), (.call 26 0 [] [(.t 77), (.t 79)]), none, .full⟩, ⟨(some 10), (.alloc [(.bool false), .nils, (.bool false), .nils]), none, .full⟩, ⟨none, (.store 4 (.t 10) (.t 80)), none, .full⟩])
 (.seq (.reg [⟨(some 81), (.call 6 0 [] [(.c (.int .i64 1))]), none, (.rd [11])⟩, ⟨(some 82), (.load 4 true (.t 10)), none, (.box 10)⟩, ⟨(some 83), (.call 27 0 [] [(.t 81), (.t 82)]), none, (.rd [11])⟩, ⟨(some 11), (.alloc [(.bool false), .nils, (.bool false), .nils]), none, .none⟩, ⟨none, (.store 4 (.t 11) (.t 83)), none, (.box 11)⟩])
 (.seq (.reg [⟨(some 84), (.faddr 1 (.t 4)), none, .full⟩, ⟨(some 85), (.load 1 false (.t 84)), none, .full⟩, ⟨(some 86), (.faddr 3 (.t 4)), none, .full⟩, ⟨(some 87), (.load 1 false (.t 86)), none, .full⟩, ⟨(some 88), (.faddr 4 (.t 4)), none, .full⟩, ⟨(some 89), (.load 1 false (.t 88)), none, .full⟩, ⟨(some 90), (.build [.nils, .nils, .nils, .nils, (.bool false)] [(1, (1, (.t 85))), (3, (1, (.t 87))), (4, (1, (.t 89)))]), none, .full⟩, ⟨(some 12), (.alloc [.nils, .nils, .nils, .nils, (.bool false)]), none, .full⟩, ⟨none, (.store 5 (.t 12) (.t 90)), none, .full⟩])
 (.seq (.seq (.reg [⟨(some 13), (.mov (.c (.int .i64 0))), none, .full⟩])
 (.block 0 (.loop L8_0)))
 (.seq (.seq (.reg [⟨(some 14), (.mov (.c (.int .i64 0))), none, .full⟩])
 (.block 2 (.loop L8_1)))
 (.seq (.reg [⟨(some 145), (.load 5 true (.t 12)), none, .full⟩, ⟨none, (.store 5 (.t 8) (.t 145)), none, .full⟩, ⟨(some 9), (.mov (.c (.int .i64 0))), none, .full⟩])
 .ret)))))))))⟩
theorem ok8 : ∃ fn hh, Try.prog.funcs[8]? = some fn ∧ (∀ vals w, (callFunc 8 vals).run Try.prog w = .ok (.enter 8 vals) w) ∧ comp Try.prog hh fn = some F8 :=
  ⟨_, hintOf [], Try.func8, Try.call8, by kernel_rfl⟩
def F9 : TFunc := ⟨2, 38, [(.tmp 4)],
 (.seq (.reg [⟨(some 2), (.box 5 (.t 0)), none, .full⟩, ⟨(some 3), (.box 5 (.t 1)), none, .full⟩, ⟨(some 4), (.mov (.c (.bool false))), none, .full⟩])
 (.seq (.reg [⟨(some 5), (.faddr 0 (.t 2)), none, .full⟩, ⟨(some 6), (.load 1 false (.t 5)), none, .full⟩, ⟨(some 7), (.faddr 0 (.t 3)), none, .full⟩, ⟨(some 8), (.load 1 false (.t 7)), none, .full⟩, ⟨(some 9), (.call 29 0 [] [(.t 6), (.t 8)]), none, .full⟩, ⟨(some 10), (.mov (.t 9)), none, .full⟩, ⟨(some 11), (.faddr 1 (.t 2)), (some (10, true)), .full⟩, ⟨(some 12), (.load 1 false (.t 11)), (some (10, true)), .full⟩, ⟨(some 13), (.faddr 1 (.t 3)), (some (10, true)), .full⟩, ⟨(some 14), (.load 1 false (.t 13)), (some (10, true)), .full⟩, ⟨(some 15), (.call 24 0 [] [(.t 12), (.t 14)]), (some (10, true)), .full⟩, ⟨(some 16), (.pick (.t 10) (.t 15) (.c (.bool false))), none, .full⟩, ⟨(some 17), (.mov (.t 16)), none, .full⟩, ⟨(some 18), (.faddr 2 (.t 2)), (some (17, true)), .full⟩, ⟨(some 19), (.load 1 false (.t 18)), (some (17, true)), .full⟩, ⟨(some 20), (.faddr 2 (.t 3)), (some (17, true)), .full⟩, ⟨(some 21), (.load 1 false (.t 20)), (some (17, true)), .full⟩, ⟨(some 22), (.call 29 0 [] [(.t 19), (.t 21)]), (some (17, true)), .full⟩, ⟨(some 23), (.pick (.t 17) (.t 22) (.c (.bool false))), none, .full⟩, ⟨(some 24), (.mov (.t 23)), none, .full⟩, ⟨(some 25), (.faddr 3 (.t 2)), (some (24, true)), .full⟩, ⟨(some 26), (.load 1 false (.t 25)), (some (24, true)), .full⟩, ⟨(some 27), (.faddr 3 (.t 3)), (some (24, true)), .full⟩, ⟨(some 28), (.load 1 false (.t 27)), (some (24, true)), .full⟩, ⟨(some 29), (.call 25 0 [] [(.t 26), (.t 28)]), (some (24, true)), .full⟩, ⟨(some 30), (.pick (.t 24) (.t 29) (.c (.bool false))), none, .full⟩, ⟨(some 31), (.mov (.t 30)), none, .full⟩, ⟨(some 32), (.faddr 4 (.t 2)), (some (31, true)), .full⟩, ⟨(some 33), (.load 1 false (.t 32)), (some (31, true)), .full⟩, ⟨(some 34), (.faddr 4 (.t 3)), (some (31, true)), .full⟩, ⟨(some 35), (.load 1 false (.t 34)), (some (31, true)), .full⟩, ⟨(some 36), (.bin true .eql (.t 33) (.t 35)), (some (31, true)), .full⟩, ⟨(some 37), (.pick (.t 31) (.t 36) (.c (.bool false))), none, .full⟩, ⟨(some 4), (.mov (.t 37)), none, .full⟩])
 .ret))⟩
theorem ok9 : ∃ fn hh, Try.prog.funcs[9]? = some fn ∧ (∀ vals w, (callFunc 9 vals).run Try.prog w = .ok (.enter 9 vals) w) ∧ comp Try.prog hh fn = some F9 :=
  ⟨_, hintOf [], Try.func9, Try.call9, by kernel_rfl⟩
def F10 : TFunc := ⟨0, 61, [(.tmp 0)],
 (.seq (.reg [⟨(some 0), (.mov (.c (.bool false))), none, .full⟩])
 (.seq (.reg [⟨(some 9), (.bslice 1 [(.int .i64 0)] 2 [(0, (.c (.int .i64 0))), (1, (.c (.int .i64 1)))]), none, .full⟩, ⟨(some 10), (.build [(.int .i64 0), .nils, (.int .i64 0), .nils, .nils] [(0, (1, (.c (.int .i64 2)))), (1, (1, (.t 9))), (2, (1, (.c (.int .i64 10))))]), none, .full⟩, ⟨(some 1), (.alloc [(.int .i64 0), .nils, (.int .i64 0), .nils, .nils]), none, .full⟩, ⟨none, (.store 5 (.t 1) (.t 10)), none, .full⟩])
 (.seq (.reg [⟨(some 11), (.call 6 0 [] [(.c (.int .i64 20))]), none, .full⟩, ⟨(some 12), (.call 6 0 [] [(.c (.int .i64 20))]), none, .full⟩, ⟨(some 13), (.bslice 4 [(.bool false), (.sl []), (.bool false), (.sl [])] 2 [(0, (.t 11)), (1, (.t 12))]), none, .full⟩, ⟨(some 14), (.build [.nils, .nils, .nils, .nils, (.bool false)] [(0, (1, (.t 13)))]), none, .full⟩, ⟨(some 2), (.alloc [.nils, .nils, .nils, .nils, (.bool false)]), none, .full⟩, ⟨none, (.store 5 (.t 2) (.t 14)), none, .full⟩])
 (.seq (.reg [⟨(some 16), (.load 5 true (.t 1)), none, (.box 1)⟩, ⟨(some 17), (.load 5 true (.t 2)), none, (.box 2)⟩, ⟨(some 18), (.call 6 0 [] [(.c (.int .i64 3))]), none, (.rd [3])⟩, ⟨(some 19), (.call 30 0 [] [(.t 16), (.t 17), (.t 18)]), none, (.rd [3])⟩, ⟨(some 15), (.mov (.t 19)), none, .none⟩, ⟨(some 20), (.extract (.t 15) 0), none, .none⟩, ⟨(some 21), (.extract (.t 15) 1), none, .none⟩, ⟨(some 3), (.alloc [(.bool false), .nils, (.bool false), .nils]), none, .none⟩, ⟨none, (.store 4 (.t 3) (.t 20)), none, (.box 3)⟩, ⟨(some 4), (.mov (.t 21)), none, .none⟩])
 (.seq (.reg [⟨(some 23), (.load 5 true (.t 1)), none, (.box 1)⟩, ⟨(some 24), (.mk 4 [(.bool false), (.sl []), (.bool false), (.sl [])] (.c (.int .i64 2))), none, .none⟩, ⟨(some 25), (.build [.nils, .nils, .nils, .nils, (.bool false)] [(0, (1, (.t 24)))]), none, .none⟩, ⟨(some 26), (.call 6 0 [] [(.c (.int .i64 0))]), none, (.rd [24, 5])⟩, ⟨(some 27), (.call 30 0 [] [(.t 23), (.t 25), (.t 26)]), none, (.rd [5])⟩, ⟨(some 22), (.mov (.t 27)), none, .none⟩, ⟨(some 28), (.extract (.t 22) 0), none, .none⟩, ⟨(some 29), (.extract (.t 22) 1), none, .none⟩, ⟨(some 5), (.alloc [(.bool false), .nils, (.bool false), .nils]), none, .none⟩, ⟨none, (.store 4 (.t 5) (.t 28)), none, (.box 5)⟩, ⟨(some 6), (.mov (.t 29)), none, .none⟩])
 (.seq (.reg [⟨(some 31), (.call 6 0 [] [(.c (.int .i64 (-7)))]), none, .full⟩, ⟨(some 32), (.call 6 0 [] [(.c (.int .i64 2))]), none, .full⟩, ⟨(some 33), (.call 26 0 [] [(.t 31), (.t 32)]), none, .full⟩, ⟨(some 34), (.call 31 0 [] [(.t 33)]), none, .full⟩, ⟨(some 30), (.mov (.t 34)), none, .full⟩, ⟨(some 35), (.extract (.t 30) 0), none, .full⟩, ⟨(some 36), (.extract (.t 30) 1), none, .full⟩, ⟨(some 7), (.mov (.t 35)), none, .full⟩, ⟨(some 8), (.mov (.t 36)), none, .full⟩])
 (.seq (.reg [⟨(some 37), (.mov (.t 4)), none, .none⟩, ⟨(some 38), (.bin false .eql (.t 37) (.c (.int .i64 0))), none, .none⟩, ⟨(some 39), (.mov (.t 38)), none, .none⟩, ⟨(some 40), (.mov (.t 6)), (some (39, true)), .none⟩, ⟨(some 41), (.bin false .eql (.t 40) (.c (.int .i64 0))), (some (39, true)), .none⟩, ⟨(some 42), (.pick (.t 39) (.t 41) (.c (.bool false))), none, .none⟩, ⟨(some 43), (.mov (.t 42)), none, .none⟩, ⟨(some 44), (.mov (.t 8)), (some (43, true)), .none⟩, ⟨(some 45), (.bin false .eql (.t 44) (.c (.int .i64 0))), (some (43, true)), .none⟩, ⟨(some 46), (.pick (.t 43) (.t 45) (.c (.bool false))), none, .none⟩, ⟨(some 47), (.mov (.t 46)), none, .none⟩, ⟨(some 48), (.mov (.t 7)), (some (47, true)), .none⟩, ⟨(some 49), (.bin false .eql (.t 48) (.c (.int .i64 (-3)))), (some (47, true)), .none⟩, ⟨(some 50), (.pick (.t 47) (.t 49) (.c (.bool false))), none, .none⟩, ⟨(some 51), (.mov (.t 50)), none, .none⟩, ⟨(some 52), (.load 4 true (.t 3)), (some (51, true)), (.box 3)⟩, ⟨(some 53), (.call 6 0 [] [(.c (.int .i64 20))]), (some (51, true)), (.rd [])⟩, ⟨(some 54), (.call 32 0 [] [(.t 52), (.t 53)]), (some (51, true)), (.rd [])⟩, ⟨(some 55), (.pick (.t 51) (.t 54) (.c (.bool false))), none, .none⟩, ⟨(some 56), (.mov (.t 55)), none, .none⟩, ⟨(some 57), (.load 4 true (.t 5)), (some (56, true)), (.box 5)⟩, ⟨(some 58), (.call 6 0 [] [(.c (.int .i64 0))]), (some (56, true)), (.rd [])⟩, ⟨(some 59), (.call 32 0 [] [(.t 57), (.t 58)]), (some (56, true)), (.rd [])⟩, ⟨(some 60), (.pick (.t 56) (.t 59) (.c (.bool false))), none, .none⟩, ⟨(some 0), (.mov (.t 60)), none, .none⟩])
 .ret)))))))⟩
theorem ok10 : ∃ fn hh, Try.prog.funcs[10]? = some fn ∧ (∀ vals w, (callFunc 10 vals).run Try.prog w = .ok (.enter 10 vals) w) ∧ comp Try.prog hh fn = some F10 :=
  ⟨_, hintOf [], Try.func10, Try.call10, by kernel_rfl⟩
def F11 : TFunc := ⟨2, 23, [(.tmp 4)],
 (.seq (.reg [⟨(some 4), (.mov (.c (.int .i64 0))), none, .full⟩])
 (.seq (.seq (.reg [⟨(some 5), (.mov (.t 0)), none, .full⟩, ⟨(some 6), (.len false (.t 5)), none, .full⟩, ⟨(some 7), (.bin false .eql (.t 6) (.c (.int .i64 0))), none, .full⟩])
 (.cond (.t 7)
 (.seq (.reg [⟨(some 8), (.mov (.t 1)), none, .full⟩, ⟨(some 9), (.bin false .and (.t 8) (.c (.int .i64 65535))), none, .full⟩, ⟨(some 4), (.mov (.t 9)), none, .full⟩])
 .ret)
 .skip))
 (.seq (.reg [⟨(some 10), (.mov (.t 0)), none, .none⟩, ⟨(some 11), (.mov (.t 1)), none, .none⟩, ⟨(some 12), (.mov (.t 0)), none, .none⟩, ⟨(some 13), (.len false (.t 12)), none, .none⟩, ⟨(some 14), (.bin false .rem (.t 11) (.t 13)), none, .none⟩, ⟨(some 15), (.iaddr 1 (.t 10) (.t 14)), none, .none⟩, ⟨(some 16), (.load 1 false (.t 15)), none, (.rd [])⟩, ⟨(some 17), (.bin false .and (.t 16) (.c (.int .i64 65535))), none, .none⟩, ⟨(some 18), (.mov (.t 1)), none, .none⟩, ⟨(some 19), (.mov (.t 0)), none, .none⟩, ⟨(some 20), (.len false (.t 19)), none, .none⟩, ⟨(some 21), (.bin false .quo (.t 18) (.t 20)), none, .none⟩, ⟨(some 22), (.bin false .add (.t 17) (.t 21)), none, .none⟩, ⟨(some 4), (.mov (.t 22)), none, .none⟩])
 .ret)))⟩
theorem ok11 : ∃ fn hh, Try.prog.funcs[11]? = some fn ∧ (∀ vals w, (callFunc 11 vals).run Try.prog w = .ok (.enter 11 vals) w) ∧ comp Try.prog hh fn = some F11 :=
  ⟨_, hintOf [], Try.func11, Try.call11, by kernel_rfl⟩
def L12_0 : TCode := (.seq (.seq (.reg [⟨(some 19), (.mov (.t 10)), none, .full⟩, ⟨(some 20), (.mov (.t 0)), none, .full⟩, ⟨(some 21), (.len false (.t 20)), none, .full⟩, ⟨(some 22), (.bin false .lss (.t 19) (.t 21)), none, .full⟩])
 (.cond (.t 22)
 .skip
 (.exit 0)))
 (.seq (.block 1 (.seq (.reg [⟨(some 25), (.mov (.t 0)), none, .full⟩, ⟨(some 26), (.mov (.t 10)), none, .full⟩, ⟨(some 27), (.iaddr 1 (.t 25) (.t 26)), none, .full⟩, ⟨(some 28), (.load 1 false (.t 27)), none, .full⟩, ⟨(some 11), (.mov (.t 28)), none, .full⟩])
 (.seq (.seq (.reg [⟨(some 29), (.mov (.t 2)), none, .full⟩, ⟨(some 30), (.bin false .shr (.t 29) (.c (.int .u64 1))), none, .full⟩, ⟨(some 31), (.bin false .and (.t 30) (.c (.int .i64 7))), none, .full⟩, ⟨(some 32), (.bin false .eql (.t 31) (.c (.int .i64 7))), none, .full⟩])
 (.cond (.t 32)
 (.reg [⟨(some 33), (.mov (.t 0)), none, .full⟩, ⟨(some 34), (.mov (.t 0)), none, .full⟩, ⟨(some 35), (.len false (.t 34)), none, .full⟩, ⟨(some 36), (.bin false .sub (.t 35) (.c (.int .i64 1))), none, .full⟩, ⟨(some 37), (.mov (.t 10)), none, .full⟩, ⟨(some 38), (.bin false .sub (.t 36) (.t 37)), none, .full⟩, ⟨(some 39), (.iaddr 1 (.t 33) (.t 38)), none, .full⟩, ⟨(some 40), (.load 1 false (.t 39)), none, .full⟩, ⟨(some 11), (.mov (.t 40)), none, .full⟩])
 .skip))
 (.seq (.reg [⟨(some 41), (.mov (.t 1)), none, .full⟩, ⟨(some 42), (.mov (.t 10)), none, .full⟩, ⟨(some 43), (.conv .u64 (.t 42)), none, .full⟩, ⟨(some 44), (.bin false .shr (.t 41) (.t 43)), none, .full⟩, ⟨(some 45), (.bin false .and (.t 44) (.c (.int .i64 1))), none, .full⟩, ⟨(some 46), (.bin false .eql (.t 45) (.c (.int .i64 1))), none, .full⟩])
 (.cond (.t 46)
 (.seq (.reg [⟨(some 47), (.mov (.t 7)), none, .full⟩, ⟨(some 48), (.mov (.t 11)), none, .full⟩, ⟨(some 49), (.build [(.int .i64 0), (.bool false)] [(0, (1, (.t 48)))]), none, .full⟩, ⟨(some 50), (.bslice 2 [(.int .i64 0), (.bool false)] 1 [(0, (.t 49))]), none, .full⟩, ⟨(some 51), (.app 2 false (.t 47) (.t 50)), none, .full⟩, ⟨(some 7), (.mov (.t 51)), none, .full⟩, ⟨(some 9), (.mov (.c (.bool true))), none, .full⟩])
 (.seq (.reg [⟨(some 52), (.mov (.t 2)), none, .full⟩, ⟨(some 53), (.bin false .shr (.t 52) (.c (.int .u64 4))), none, .full⟩, ⟨(some 54), (.bin false .and (.t 53) (.c (.int .i64 3))), none, .full⟩, ⟨(some 55), (.bin false .eql (.t 54) (.c (.int .i64 3))), none, .full⟩])
 (.cond (.t 55)
 (.reg [⟨(some 56), (.mov (.t 8)), none, .full⟩, ⟨(some 57), (.mov (.t 7)), none, .full⟩, ⟨(some 58), (.bslice 1 [(.sl [])] 1 [(0, (.t 57))]), none, .full⟩, ⟨(some 59), (.app 1 false (.t 56) (.t 58)), none, .full⟩, ⟨(some 8), (.mov (.t 59)), none, .full⟩, ⟨(some 7), (.mov (.c .nils)), none, .full⟩])
 .skip)))
 .skip)))))
 (.reg [⟨(some 23), (.mov (.t 10)), none, .full⟩, ⟨(some 24), (.bin false .add (.t 23) (.c (.int .i64 1))), none, .full⟩, ⟨(some 10), (.mov (.t 24)), none, .full⟩])))
def F12 : TFunc := ⟨3, 88, [(.cell 6 3 true)],
 (.seq (.reg [⟨(some 6), (.alloc [(.str ⟨#[]⟩), .nils, (.int .i64 0)]), none, .full⟩])
 (.seq (.reg [⟨(some 7), (.mov (.c .nils)), none, .full⟩])
 (.seq (.reg [⟨(some 8), (.mov (.c .nils)), none, .full⟩])
 (.seq (.seq (.reg [⟨(some 12), (.mov (.t 2)), none, .full⟩, ⟨(some 13), (.bin false .and (.t 12) (.c (.int .i64 1))), none, .full⟩, ⟨(some 14), (.bin false .eql (.t 13) (.c (.int .i64 1))), none, .full⟩])
 (.cond (.t 14)
 (.reg [⟨(some 15), (.mov (.t 7)), none, .full⟩, ⟨(some 16), (.build [(.int .i64 0), (.bool false)] [(0, (1, (.c (.int .i64 0)))), (1, (1, (.c (.bool true))))]), none, .full⟩, ⟨(some 17), (.bslice 2 [(.int .i64 0), (.bool false)] 1 [(0, (.t 16))]), none, .full⟩, ⟨(some 18), (.app 2 false (.t 15) (.t 17)), none, .full⟩, ⟨(some 7), (.mov (.t 18)), none, .full⟩])
 .skip))
 (.seq (.reg [⟨(some 9), (.mov (.c (.bool false))), none, .full⟩])
 (.seq (.seq (.reg [⟨(some 10), (.mov (.c (.int .i64 0))), none, .full⟩])
 (.block 0 (.loop L12_0)))
 (.seq (.seq (.reg [⟨(some 60), (.mov (.t 9)), none, .full⟩, ⟨(some 61), (.un .not (.t 60)), none, .full⟩])
 (.cond (.t 61)
 (.reg [⟨(some 62), (.mov (.t 7)), none, .full⟩, ⟨(some 63), (.mov (.t 0)), none, .full⟩, ⟨(some 64), (.mov (.t 1)), none, .full⟩, ⟨(some 65), (.bin false .shr (.t 64) (.c (.int .u64 6))), none, .full⟩, ⟨(some 66), (.mov (.t 0)), none, .full⟩, ⟨(some 67), (.len false (.t 66)), none, .full⟩, ⟨(some 68), (.bin false .rem (.t 65) (.t 67)), none, .full⟩, ⟨(some 69), (.iaddr 1 (.t 63) (.t 68)), none, .full⟩, ⟨(some 70), (.load 1 false (.t 69)), none, .full⟩, ⟨(some 71), (.build [(.int .i64 0), (.bool false)] [(0, (1, (.t 70)))]), none, .full⟩, ⟨(some 72), (.bslice 2 [(.int .i64 0), (.bool false)] 1 [(0, (.t 71))]), none, .full⟩, ⟨(some 73), (.app 2 false (.t 62) (.t 72)), none, .full⟩, ⟨(some 7), (.mov (.t 73)), none, .full⟩])
 .skip))
 (.seq (.seq (.reg [⟨(some 74), (.mov (.t 7)), none, .full⟩, ⟨(some 75), (.len false (.t 74)), none, .full⟩, ⟨(some 76), (.bin false .gtr (.t 75) (.c (.int .i64 0))), none, .full⟩])
 (.cond (.t 76)
 (.reg [⟨(some 77), (.mov (.t 8)), none, .full⟩, ⟨(some 78), (.mov (.t 7)), none, .full⟩, ⟨(some 79), (.bslice 1 [(.sl [])] 1 [(0, (.t 78))]), none, .full⟩, ⟨(some 80), (.app 1 false (.t 77) (.t 79)), none, .full⟩, ⟨(some 8), (.mov (.t 80)), none, .full⟩])
 .skip))
 (.seq (.reg [⟨(some 81), (.mov (.t 8)), none, .full⟩, ⟨(some 82), (.build [(.str ⟨#[]⟩), .nils] [(0, (1, (.c (.str ⟨#[65, 65, 65]⟩)))), (1, (1, (.t 81)))]), none, .full⟩, ⟨(some 83), (.mov (.t 1)), none, .full⟩, ⟨(some 84), (.bin false .shr (.t 83) (.c (.int .u64 5))), none, .full⟩, ⟨(some 85), (.bin false .rem (.t 84) (.c (.int .i64 41))), none, .full⟩, ⟨(some 86), (.bin false .sub (.t 85) (.c (.int .i64 5))), none, .full⟩, ⟨(some 87), (.build [(.str ⟨#[]⟩), .nils, (.int .i64 0)] [(0, (2, (.t 82))), (2, (1, (.t 86)))]), none, .full⟩, ⟨none, (.store 3 (.t 6) (.t 87)), none, .full⟩])
 .ret)))))))))⟩
theorem ok12 : ∃ fn hh, Try.prog.funcs[12]? = some fn ∧ (∀ vals w, (callFunc 12 vals).run Try.prog w = .ok (.enter 12 vals) w) ∧ comp Try.prog hh fn = some F12 :=
  ⟨_, hintOf [], Try.func12, Try.call12, by kernel_rfl⟩
def F13 : TFunc := ⟨2, 20, [(.cell 4 4 true)],
 (.seq (.reg [⟨(some 2), (.box 4 (.t 0)), none, .full⟩, ⟨(some 3), (.box 4 (.t 1)), none, .full⟩, ⟨(some 4), (.alloc [(.bool false), .nils, (.bool false), .nils]), none, .full⟩])
 (.seq (.reg [⟨(some 5), (.load 4 true (.t 2)), none, (.box 2)⟩, ⟨(some 6), (.call 33 0 [] [(.t 5)]), none, (.rd [])⟩, ⟨(some 7), (.load 4 true (.t 3)), none, (.box 3)⟩, ⟨(some 8), (.call 33 0 [] [(.t 7)]), none, (.rd [])⟩, ⟨none, (.store 4 (.t 2) (.t 6)), none, (.box 2)⟩, ⟨none, (.store 4 (.t 3) (.t 8)), none, (.box 3)⟩])
 (.seq (.reg [⟨(some 9), (.faddr 0 (.t 2)), none, .none⟩, ⟨(some 10), (.load 2 true (.t 9)), none, (.box 2)⟩, ⟨(some 11), (.faddr 0 (.t 3)), none, .none⟩, ⟨(some 12), (.load 2 true (.t 11)), none, (.box 3)⟩, ⟨(some 13), (.call 34 0 [] [(.t 10), (.t 12)]), none, (.rd [])⟩, ⟨(some 14), (.faddr 2 (.t 2)), none, .none⟩, ⟨(some 15), (.load 2 true (.t 14)), none, (.box 2)⟩, ⟨(some 16), (.faddr 2 (.t 3)), none, .none⟩, ⟨(some 17), (.load 2 true (.t 16)), none, (.box 3)⟩, ⟨(some 18), (.call 34 0 [] [(.t 15), (.t 17)]), none, (.rd [])⟩, ⟨(some 19), (.call 17 1 [] [(.t 13), (.t 18)]), none, (.rd [])⟩, ⟨none, (.store 4 (.t 4) (.t 19)), none, (.box 4)⟩])
 .ret)))⟩
theorem ok13 : ∃ fn hh, Try.prog.funcs[13]? = some fn ∧ (∀ vals w, (callFunc 13 vals).run Try.prog w = .ok (.enter 13 vals) w) ∧ comp Try.prog hh fn = some F13 :=
  ⟨_, hintOf [(19, 1, [])], Try.func13, Try.call13, by kernel_rfl⟩
def F14 : TFunc := ⟨1, 13, [(.cell 2 4 true)],
 (.seq (.reg [⟨(some 2), (.alloc [(.bool false), .nils, (.bool false), .nils]), none, .full⟩])
 (.seq (.reg [⟨(some 3), (.mov (.t 0)), none, .full⟩, ⟨(some 4), (.bin false .and (.t 3) (.c (.int .i64 15))), none, .full⟩, ⟨(some 5), (.bin false .sub (.t 4) (.c (.int .i64 5))), none, .full⟩, ⟨(some 6), (.call 6 0 [] [(.t 5)]), none, .full⟩, ⟨(some 7), (.mov (.t 0)), none, .full⟩, ⟨(some 8), (.bin false .shr (.t 7) (.c (.int .u64 4))), none, .full⟩, ⟨(some 9), (.bin false .and (.t 8) (.c (.int .i64 3))), none, .full⟩, ⟨(some 10), (.bin false .add (.c (.int .i64 1)) (.t 9)), none, .full⟩, ⟨(some 11), (.call 6 0 [] [(.t 10)]), none, .full⟩, ⟨(some 12), (.call 26 0 [] [(.t 6), (.t 11)]), none, .full⟩, ⟨none, (.store 4 (.t 2) (.t 12)), none, .full⟩])
 .ret))⟩
theorem ok14 : ∃ fn hh, Try.prog.funcs[14]? = some fn ∧ (∀ vals w, (callFunc 14 vals).run Try.prog w = .ok (.enter 14 vals) w) ∧ comp Try.prog hh fn = some F14 :=
  ⟨_, hintOf [], Try.func14, Try.call14, by kernel_rfl⟩
def F15 : TFunc := ⟨1, 7, [(.tmp 2)],
 (.seq (.reg [⟨(some 1), (.box 4 (.t 0)), none, .full⟩, ⟨(some 2), (.mov (.c (.int .i64 0))), none, .full⟩])
 (.seq (.reg [⟨(some 3), (.load 4 true (.t 1)), none, .full⟩, ⟨(some 4), (.call 33 0 [] [(.t 3)]), none, .full⟩, ⟨(some 5), (.field 0 2 true (.t 4)), none, .full⟩, ⟨(some 6), (.call 35 0 [] [(.t 5)]), none, .full⟩, ⟨(some 2), (.mov (.t 6)), none, .full⟩])
 .ret))⟩
theorem ok15 : ∃ fn hh, Try.prog.funcs[15]? = some fn ∧ (∀ vals w, (callFunc 15 vals).run Try.prog w = .ok (.enter 15 vals) w) ∧ comp Try.prog hh fn = some F15 :=
  ⟨_, hintOf [], Try.func15, Try.call15, by kernel_rfl⟩
def F16 : TFunc := ⟨1, 9, [(.cell 2 4 true)],
 (.seq (.reg [⟨(some 1), (.box 4 (.t 0)), none, .full⟩, ⟨(some 2), (.alloc [(.bool false), .nils, (.bool false), .nils]), none, .full⟩])
 (.seq (.reg [⟨(some 3), (.faddr 0 (.t 1)), none, .none⟩, ⟨(some 4), (.load 2 true (.t 3)), none, (.box 1)⟩, ⟨(some 5), (.call 36 0 [] [(.t 4)]), none, (.rd [])⟩, ⟨(some 6), (.faddr 2 (.t 1)), none, .none⟩, ⟨(some 7), (.load 2 true (.t 6)), none, (.box 1)⟩, ⟨(some 8), (.call 17 0 [] [(.t 5), (.t 7)]), none, (.rd [])⟩, ⟨none, (.store 4 (.t 2) (.t 8)), none, (.box 2)⟩])
 .ret))⟩
theorem ok16 : ∃ fn hh, Try.prog.funcs[16]? = some fn ∧ (∀ vals w, (callFunc 16 vals).run Try.prog w = .ok (.enter 16 vals) w) ∧ comp Try.prog hh fn = some F16 :=
  ⟨_, hintOf [], Try.func16, Try.call16, by kernel_rfl⟩
def F17 : TFunc := ⟨2, 53, [(.cell 4 4 true)],
 (.seq (.reg [⟨(some 2), (.box 2 (.t 0)), none, .full⟩, ⟨(some 3), (.box 2 (.t 1)), none, .full⟩, ⟨(some 4), (.alloc [(.bool false), .nils, (.bool false), .nils]), none, .full⟩])
 (.seq (.reg [⟨(some 13), (.call 18 0 [] [(.c (.int .i64 1))]), none, .full⟩, ⟨(some 5), (.alloc [(.bool false), .nils]), none, .full⟩, ⟨none, (.store 2 (.t 5) (.t 13)), none, .full⟩])
 (.seq (.seq (.reg [⟨(some 14), (.load 2 true (.t 3)), none, .full⟩, ⟨(some 15), (.call 35 0 [] [(.t 14)]), none, .full⟩, ⟨(some 16), (.bin false .eql (.t 15) (.c (.int .i64 0))), none, .full⟩, ⟨(some 17), (.mov (.t 16)), none, .full⟩, ⟨(some 18), (.load 2 true (.t 2)), (some (17, false)), .full⟩, ⟨(some 19), (.call 35 0 [] [(.t 18)]), (some (17, false)), .full⟩, ⟨(some 20), (.bin false .eql (.t 19) (.c (.int .i64 0))), (some (17, false)), .full⟩, ⟨(some 21), (.pick (.t 17) (.c (.bool true)) (.t 20)), none, .full⟩])
 (.cond (.t 21)
 (.seq (.reg [⟨(some 22), (.load 2 true (.t 5)), none, .full⟩, ⟨(some 23), (.build [(.bool false), .nils, (.bool false), .nils] [(2, (2, (.t 22)))]), none, .full⟩, ⟨none, (.store 4 (.t 4) (.t 23)), none, .full⟩])
 .ret)
 .skip))
 (.seq (.seq (.reg [⟨(some 24), (.load 2 true (.t 3)), none, .full⟩, ⟨(some 25), (.call 35 0 [] [(.t 24)]), none, .full⟩, ⟨(some 26), (.bin false .lss (.t 25) (.c (.int .i64 0))), none, .full⟩])
 (.cond (.t 26)
 (.reg [⟨(some 27), (.load 2 true (.t 2)), none, (.box 2)⟩, ⟨(some 28), (.call 36 0 [] [(.t 27)]), none, (.rd [])⟩, ⟨(some 29), (.load 2 true (.t 3)), none, (.box 3)⟩, ⟨(some 30), (.call 36 0 [] [(.t 29)]), none, (.rd [])⟩, ⟨none, (.store 2 (.t 2) (.t 28)), none, (.box 2)⟩, ⟨none, (.store 2 (.t 3) (.t 30)), none, (.box 3)⟩])
 .skip))
 (.seq (.reg [⟨(some 31), (.load 2 true (.t 2)), none, .full⟩, ⟨(some 32), (.load 2 true (.t 3)), none, .full⟩, ⟨(some 33), (.call 37 0 [] [(.t 31), (.t 32)]), none, .full⟩, ⟨(some 6), (.alloc [(.bool false), .nils]), none, .full⟩, ⟨none, (.store 2 (.t 6) (.t 33)), none, .full⟩])
 (.seq (.reg [⟨(some 35), (.load 2 true (.t 2)), none, .full⟩, ⟨(some 36), (.load 2 true (.t 6)), none, .full⟩, ⟨(some 37), (.call 38 0 [] [(.t 35), (.t 36)]), none, .full⟩, ⟨(some 34), (.mov (.t 37)), none, .full⟩, ⟨(some 38), (.extract (.t 34) 0), none, .full⟩, ⟨(some 39), (.extract (.t 34) 1), none, .full⟩, ⟨(some 40), (.extract (.t 34) 2), none, .full⟩, ⟨(some 7), (.alloc [(.bool false), .nils]), none, .full⟩, ⟨(some 8), (.alloc [(.bool false), .nils]), none, .full⟩, ⟨none, (.store 2 (.t 7) (.t 38)), none, .full⟩, ⟨none, (.store 2 (.t 8) (.t 39)), none, .full⟩, ⟨(some 9), (.mov (.t 40)), none, .full⟩])
 (.seq (.reg [⟨(some 42), (.load 2 true (.t 3)), none, .full⟩, ⟨(some 43), (.load 2 true (.t 6)), none, .full⟩, ⟨(some 44), (.call 38 0 [] [(.t 42), (.t 43)]), none, .full⟩, ⟨(some 41), (.mov (.t 44)), none, .full⟩, ⟨(some 45), (.extract (.t 41) 0), none, .full⟩, ⟨(some 46), (.extract (.t 41) 1), none, .full⟩, ⟨(some 47), (.extract (.t 41) 2), none, .full⟩, ⟨(some 10), (.alloc [(.bool false), .nils]), none, .full⟩, ⟨(some 11), (.alloc [(.bool false), .nils]), none, .full⟩, ⟨none, (.store 2 (.t 10) (.t 45)), none, .full⟩, ⟨none, (.store 2 (.t 11) (.t 46)), none, .full⟩, ⟨(some 12), (.mov (.t 47)), none, .full⟩])
 (.seq (.reg [⟨(some 48), (.load 2 true (.t 7)), none, (.box 7)⟩, ⟨(some 49), (.call 39 1 [] [(.t 48)]), none, (.rd [])⟩, ⟨(some 50), (.load 2 true (.t 10)), none, (.box 10)⟩, ⟨(some 51), (.call 39 1 [] [(.t 50)]), none, (.rd [])⟩, ⟨(some 52), (.build [(.bool false), .nils, (.bool false), .nils] [(0, (2, (.t 49))), (2, (2, (.t 51)))]), none, .none⟩, ⟨none, (.store 4 (.t 4) (.t 52)), none, (.box 4)⟩])
 .ret))))))))⟩
theorem ok17 : ∃ fn hh, Try.prog.funcs[17]? = some fn ∧ (∀ vals w, (callFunc 17 vals).run Try.prog w = .ok (.enter 17 vals) w) ∧ comp Try.prog hh fn = some F17 :=
  ⟨_, hintOf [(49, 1, []), (51, 1, [])], Try.func17, Try.call17, by kernel_rfl⟩
def F18 : TFunc := ⟨1, 19, [(.cell 2 2 true)],
 (.seq (.reg [⟨(some 2), (.alloc [(.bool false), .nils]), none, .full⟩])
 (.seq (.reg [⟨(some 4), (.mov (.t 0)), none, .full⟩, ⟨(some 5), (.conv .u64 (.t 4)), none, .full⟩, ⟨(some 3), (.mov (.t 5)), none, .full⟩])
 (.seq (.seq (.reg [⟨(some 6), (.mov (.t 0)), none, .full⟩, ⟨(some 7), (.bin false .lss (.t 6) (.c (.int .i64 0))), none, .full⟩])
 (.cond (.t 7)
 (.reg [⟨(some 8), (.mov (.t 3)), none, .full⟩, ⟨(some 9), (.un .neg (.t 8)), none, .full⟩, ⟨(some 3), (.mov (.t 9)), none, .full⟩])
 .skip))
 (.seq (.reg [⟨(some 10), (.mov (.t 0)), none, .full⟩, ⟨(some 11), (.bin false .lss (.t 10) (.c (.int .i64 0))), none, .full⟩, ⟨(some 12), (.mov (.t 3)), none, .full⟩, ⟨(some 13), (.conv .u32 (.t 12)), none, .full⟩, ⟨(some 14), (.mov (.t 3)), none, .full⟩, ⟨(some 15), (.bin false .shr (.t 14) (.c (.int .u64 32))), none, .full⟩, ⟨(some 16), (.conv .u32 (.t 15)), none, .full⟩, ⟨(some 17), (.bslice 1 [(.int .u32 0)] 2 [(0, (.t 13)), (1, (.t 16))]), none, .full⟩, ⟨(some 18), (.call 40 0 [] [(.t 11), (.t 17)]), none, .full⟩, ⟨none, (.store 2 (.t 2) (.t 18)), none, .full⟩])
 .ret))))⟩
theorem ok18 : ∃ fn hh, Try.prog.funcs[18]? = some fn ∧ (∀ vals w, (callFunc 18 vals).run Try.prog w = .ok (.enter 18 vals) w) ∧ comp Try.prog hh fn = some F18 :=
  ⟨_, hintOf [], Try.func18, Try.call18, by kernel_rfl⟩
def L19_0 : TCode := (.seq (.reg [⟨(some 34), (.bin false .lss (.t 33) (.t 32)), none, .full⟩])
 (.seq (.cond (.t 34)
 .skip
 (.exit 0))
 (.seq (.block 1 (.seq (.reg [⟨(some 35), (.mov (.t 33)), none, .full⟩, ⟨(some 5), (.mov (.t 35)), none, .full⟩])
 (.seq (.reg [⟨(some 36), (.faddr 1 (.t 2)), none, .none⟩, ⟨(some 37), (.load 1 false (.t 36)), none, (.box 2)⟩, ⟨(some 38), (.mov (.t 5)), none, .none⟩, ⟨(some 39), (.iaddr 2 (.t 37) (.t 38)), none, .none⟩, ⟨(some 40), (.faddr 1 (.t 39)), none, .none⟩, ⟨(some 41), (.load 1 false (.t 40)), none, (.rd [])⟩, ⟨(some 42), (.faddr 1 (.t 3)), none, .none⟩, ⟨(some 43), (.load 1 false (.t 42)), none, (.box 3)⟩, ⟨(some 44), (.mov (.t 5)), none, .none⟩, ⟨(some 45), (.iaddr 2 (.t 43) (.t 44)), none, .none⟩, ⟨(some 46), (.faddr 1 (.t 45)), none, .none⟩, ⟨(some 47), (.load 1 false (.t 46)), none, (.rd [])⟩, ⟨(some 48), (.bin false .neq (.t 41) (.t 47)), none, .none⟩, ⟨(some 49), (.mov (.t 48)), none, .none⟩, ⟨(some 50), (.faddr 1 (.t 2)), (some (49, false)), .none⟩, ⟨(some 51), (.load 1 false (.t 50)), (some (49, false)), (.box 2)⟩, ⟨(some 52), (.mov (.t 5)), (some (49, false)), .none⟩, ⟨(some 53), (.iaddr 2 (.t 51) (.t 52)), (some (49, false)), .none⟩, ⟨(some 54), (.faddr 0 (.t 53)), (some (49, false)), .none⟩, ⟨(some 55), (.load 1 false (.t 54)), (some (49, false)), (.rd [])⟩, ⟨(some 56), (.faddr 1 (.t 3)), (some (49, false)), .none⟩, ⟨(some 57), (.load 1 false (.t 56)), (some (49, false)), (.box 3)⟩, ⟨(some 58), (.mov (.t 5)), (some (49, false)), .none⟩, ⟨(some 59), (.iaddr 2 (.t 57) (.t 58)), (some (49, false)), .none⟩, ⟨(some 60), (.faddr 0 (.t 59)), (some (49, false)), .none⟩, ⟨(some 61), (.load 1 false (.t 60)), (some (49, false)), (.rd [])⟩, ⟨(some 62), (.call 41 0 [] [(.t 55), (.t 61)]), (some (49, false)), (.rd [])⟩, ⟨(some 63), (.un .not (.t 62)), (some (49, false)), .none⟩, ⟨(some 64), (.pick (.t 49) (.c (.bool true)) (.t 63)), none, .none⟩])
 (.cond (.t 64)
 (.seq (.reg [⟨(some 4), (.mov (.c (.bool false))), none, .full⟩])
 .ret)
 .skip))))
 (.reg [⟨(some 65), (.bin false .add (.t 33) (.c (.int .i64 1))), none, .full⟩, ⟨(some 33), (.mov (.t 65)), none, .full⟩]))))
def L19_1 : TCode := (.seq (.reg [⟨(some 70), (.bin false .lss (.t 69) (.t 68)), none, .full⟩])
 (.seq (.cond (.t 70)
 .skip
 (.exit 2))
 (.seq (.block 3 (.seq (.reg [⟨(some 71), (.mov (.t 69)), none, .full⟩, ⟨(some 6), (.mov (.t 71)), none, .full⟩])
 (.seq (.reg [⟨(some 72), (.faddr 3 (.t 2)), none, .none⟩, ⟨(some 73), (.load 1 false (.t 72)), none, (.box 2)⟩, ⟨(some 74), (.mov (.t 6)), none, .none⟩, ⟨(some 75), (.iaddr 3 (.t 73) (.t 74)), none, .none⟩, ⟨(some 76), (.load 3 true (.t 75)), none, (.rd [])⟩, ⟨(some 77), (.faddr 3 (.t 3)), none, .none⟩, ⟨(some 78), (.load 1 false (.t 77)), none, (.box 3)⟩, ⟨(some 79), (.mov (.t 6)), none, .none⟩, ⟨(some 80), (.iaddr 3 (.t 78) (.t 79)), none, .none⟩, ⟨(some 81), (.load 3 true (.t 80)), none, (.rd [])⟩, ⟨(some 82), (.eqs true [0, 0, 1] (.t 76) (.t 81)), none, .none⟩])
 (.cond (.t 82)
 (.seq (.reg [⟨(some 4), (.mov (.c (.bool false))), none, .full⟩])
 .ret)
 .skip))))
 (.reg [⟨(some 83), (.bin false .add (.t 69) (.c (.int .i64 1))), none, .full⟩, ⟨(some 69), (.mov (.t 83)), none, .full⟩]))))
def F19 : TFunc := ⟨2, 84, [(.tmp 4)],
 (.seq (.reg [⟨(some 2), (.box 5 (.t 0)), none, .full⟩, ⟨(some 3), (.box 5 (.t 1)), none, .full⟩, ⟨(some 4), (.mov (.c (.bool false))), none, .full⟩])
 (.seq (.seq (.reg [⟨(some 7), (.faddr 1 (.t 2)), none, .full⟩, ⟨(some 8), (.load 1 false (.t 7)), none, .full⟩, ⟨(some 9), (.len false (.t 8)), none, .full⟩, ⟨(some 10), (.faddr 1 (.t 3)), none, .full⟩, ⟨(some 11), (.load 1 false (.t 10)), none, .full⟩, ⟨(some 12), (.len false (.t 11)), none, .full⟩, ⟨(some 13), (.bin false .neq (.t 9) (.t 12)), none, .full⟩, ⟨(some 14), (.mov (.t 13)), none, .full⟩, ⟨(some 15), (.faddr 3 (.t 2)), (some (14, false)), .full⟩, ⟨(some 16), (.load 1 false (.t 15)), (some (14, false)), .full⟩, ⟨(some 17), (.len false (.t 16)), (some (14, false)), .full⟩, ⟨(some 18), (.faddr 3 (.t 3)), (some (14, false)), .full⟩, ⟨(some 19), (.load 1 false (.t 18)), (some (14, false)), .full⟩, ⟨(some 20), (.len false (.t 19)), (some (14, false)), .full⟩, ⟨(some 21), (.bin false .neq (.t 17) (.t 20)), (some (14, false)), .full⟩, ⟨(some 22), (.pick (.t 14) (.c (.bool true)) (.t 21)), none, .full⟩, ⟨(some 23), (.mov (.t 22)), none, .full⟩, ⟨(some 24), (.faddr 4 (.t 2)), (some (23, false)), .full⟩, ⟨(some 25), (.load 1 false (.t 24)), (some (23, false)), .full⟩, ⟨(some 26), (.faddr 4 (.t 3)), (some (23, false)), .full⟩, ⟨(some 27), (.load 1 false (.t 26)), (some (23, false)), .full⟩, ⟨(some 28), (.bin true .neq (.t 25) (.t 27)), (some (23, false)), .full⟩, ⟨(some 29), (.pick (.t 23) (.c (.bool true)) (.t 28)), none, .full⟩])
 (.cond (.t 29)
 (.seq (.reg [⟨(some 4), (.mov (.c (.bool false))), none, .full⟩])
 .ret)
 .skip))
 (.seq (.seq (.reg [⟨(some 30), (.faddr 1 (.t 2)), none, .full⟩, ⟨(some 31), (.load 1 false (.t 30)), none, .full⟩, ⟨(some 32), (.len false (.t 31)), none, .full⟩, ⟨(some 33), (.mov (.c (.int .i64 0))), none, .full⟩])
 (.block 0 (.loop L19_0)))
 (.seq (.seq (.reg [⟨(some 66), (.faddr 3 (.t 2)), none, .full⟩, ⟨(some 67), (.load 1 false (.t 66)), none, .full⟩, ⟨(some 68), (.len false (.t 67)), none, .full⟩, ⟨(some 69), (.mov (.c (.int .i64 0))), none, .full⟩])
 (.block 2 (.loop L19_1)))
 (.seq (.reg [⟨(some 4), (.mov (.c (.bool true))), none, .full⟩])
 .ret)))))⟩
theorem ok19 : ∃ fn hh, Try.prog.funcs[19]? = some fn ∧ (∀ vals w, (callFunc 19 vals).run Try.prog w = .ok (.enter 19 vals) w) ∧ comp Try.prog hh fn = some F19 :=
  ⟨_, hintOf [], Try.func19, Try.call19, by kernel_rfl⟩
def F20 : TFunc := ⟨2, 13, [(.cell 4 4 true), (.tmp 5)],
 (.seq (.reg [⟨(some 4), (.alloc [(.bool false), .nils, (.bool false), .nils]), none, .full⟩, ⟨(some 5), (.mov (.c (.int .i64 0))), none, .full⟩])
 (.seq (.reg [⟨(some 6), (.mov (.t 0)), none, .full⟩, ⟨(some 7), (.call 43 0 [] [(.t 6)]), none, .full⟩, ⟨(some 8), (.mov (.t 1)), none, .full⟩, ⟨(some 9), (.call 43 0 [] [(.t 8)]), none, .full⟩, ⟨(some 10), (.call 42 0 [] [(.t 7), (.t 9)]), none, .full⟩, ⟨(some 11), (.extract (.t 10) 0), none, .full⟩, ⟨(some 12), (.extract (.t 10) 1), none, .full⟩, ⟨none, (.store 4 (.t 4) (.t 11)), none, .full⟩, ⟨(some 5), (.mov (.t 12)), none, .full⟩])
 .ret))⟩
theorem ok20 : ∃ fn hh, Try.prog.funcs[20]? = some fn ∧ (∀ vals w, (callFunc 20 vals).run Try.prog w = .ok (.enter 20 vals) w) ∧ comp Try.prog hh fn = some F20 :=
  ⟨_, hintOf [], Try.func20, Try.call20, by kernel_rfl⟩
def L21_0 : TCode := (.seq (.reg [⟨(some 21), (.bin false .lss (.t 20) (.t 19)), none, .full⟩])
 (.seq (.cond (.t 21)
 .skip
 (.exit 0))
 (.seq (.block 1 (.seq (.reg [⟨(some 22), (.iaddr 4 (.t 18) (.t 20)), none, .full⟩, ⟨(some 23), (.load 4 true (.t 22)), none, .full⟩, ⟨(some 5), (.alloc [(.bool false), .nils, (.bool false), .nils]), none, .full⟩, ⟨none, (.store 4 (.t 5) (.t 23)), none, .full⟩])
 (.reg [⟨(some 24), (.faddr 0 (.t 3)), none, .none⟩, ⟨(some 25), (.load 1 false (.t 24)), none, (.box 3)⟩, ⟨(some 26), (.load 4 true (.t 5)), none, (.box 5)⟩, ⟨(some 27), (.call 44 0 [] [(.c (.int .i64 0))]), none, (.rd [])⟩, ⟨(some 28), (.call 22 0 [] [(.t 26), (.t 27)]), none, (.rd [])⟩, ⟨(some 29), (.bslice 4 [(.bool false), (.sl []), (.bool false), (.sl [])] 1 [(0, (.t 28))]), none, .none⟩, ⟨(some 30), (.app 4 true (.t 25) (.t 29)), none, (.fb [])⟩, ⟨(some 31), (.faddr 0 (.t 3)), none, .none⟩, ⟨none, (.store 1 (.t 31) (.t 30)), none, (.box 3)⟩])))
 (.reg [⟨(some 32), (.bin false .add (.t 20) (.c (.int .i64 1))), none, .full⟩, ⟨(some 20), (.mov (.t 32)), none, .full⟩]))))
def L21_1 : TCode := (.seq (.reg [⟨(some 37), (.bin false .lss (.t 36) (.t 35)), none, .full⟩])
 (.seq (.cond (.t 37)
 .skip
 (.exit 2))
 (.seq (.block 3 (.seq (.reg [⟨(some 38), (.iaddr 4 (.t 34) (.t 36)), none, .full⟩, ⟨(some 39), (.load 4 true (.t 38)), none, .full⟩, ⟨(some 7), (.alloc [(.bool false), .nils, (.bool false), .nils]), none, .full⟩, ⟨none, (.store 4 (.t 7) (.t 39)), none, .full⟩])
 (.reg [⟨(some 40), (.faddr 2 (.t 3)), none, .none⟩, ⟨(some 41), (.load 1 false (.t 40)), none, (.box 3)⟩, ⟨(some 42), (.load 4 true (.t 7)), none, (.box 7)⟩, ⟨(some 43), (.call 44 0 [] [(.c (.int .i64 0))]), none, (.rd [])⟩, ⟨(some 44), (.call 22 0 [] [(.t 42), (.t 43)]), none, (.rd [])⟩, ⟨(some 45), (.bslice 4 [(.bool false), (.sl []), (.bool false), (.sl [])] 1 [(0, (.t 44))]), none, .none⟩, ⟨(some 46), (.app 4 true (.t 41) (.t 45)), none, (.fb [])⟩, ⟨(some 47), (.faddr 2 (.t 3)), none, .none⟩, ⟨none, (.store 1 (.t 47) (.t 46)), none, (.box 3)⟩])))
 (.reg [⟨(some 48), (.bin false .add (.t 36) (.c (.int .i64 1))), none, .full⟩, ⟨(some 36), (.mov (.t 48)), none, .full⟩]))))
def L21_2 : TCode := (.seq (.reg [⟨(some 53), (.bin false .lss (.t 52) (.t 51)), none, .full⟩])
 (.seq (.cond (.t 53)
 .skip
 (.exit 4))
 (.seq (.block 5 (.seq (.reg [⟨(some 54), (.iaddr 2 (.t 50) (.t 52)), none, .full⟩, ⟨(some 55), (.load 2 true (.t 54)), none, .full⟩, ⟨(some 9), (.alloc [.nils, (.int .i64 0)]), none, .full⟩, ⟨none, (.store 2 (.t 9) (.t 55)), none, .full⟩])
 (.reg [⟨(some 56), (.faddr 1 (.t 3)), none, .none⟩, ⟨(some 57), (.load 1 false (.t 56)), none, (.box 3)⟩, ⟨(some 58), (.bslice 1 [(.int .i64 0)] 0 []), none, .none⟩, ⟨(some 59), (.faddr 0 (.t 9)), none, .none⟩, ⟨(some 60), (.load 1 false (.t 59)), none, (.box 9)⟩, ⟨(some 61), (.app 1 false (.t 58) (.t 60)), none, (.fb [])⟩, ⟨(some 62), (.faddr 1 (.t 9)), none, .none⟩, ⟨(some 63), (.load 1 false (.t 62)), none, (.box 9)⟩, ⟨(some 64), (.build [.nils, (.int .i64 0)] [(0, (1, (.t 61))), (1, (1, (.t 63)))]), none, .none⟩, ⟨(some 65), (.bslice 2 [(.sl []), (.int .i64 0)] 1 [(0, (.t 64))]), none, (.rd [])⟩, ⟨(some 66), (.app 2 false (.t 57) (.t 65)), none, (.fb [])⟩, ⟨(some 67), (.faddr 1 (.t 3)), none, .none⟩, ⟨none, (.store 1 (.t 67) (.t 66)), none, (.box 3)⟩])))
 (.reg [⟨(some 68), (.bin false .add (.t 52) (.c (.int .i64 1))), none, .full⟩, ⟨(some 52), (.mov (.t 68)), none, .full⟩]))))
def F21 : TFunc := ⟨1, 70, [(.cell 2 5 true)],
 (.seq (.reg [⟨(some 1), (.box 5 (.t 0)), none, .full⟩, ⟨(some 2), (.alloc [.nils, .nils, .nils, .nils, (.bool false)]), none, .full⟩])
 (.seq (.reg [⟨(some 10), (.bslice 3 [(.int .i64 0), (.int .i64 0), (.bool false)] 0 []), none, .none⟩, ⟨(some 11), (.faddr 3 (.t 1)), none, .none⟩, ⟨(some 12), (.load 1 false (.t 11)), none, (.box 1)⟩, ⟨(some 13), (.app 3 false (.t 10) (.t 12)), none, (.fb [3])⟩, ⟨(some 14), (.faddr 4 (.t 1)), none, .none⟩, ⟨(some 15), (.load 1 false (.t 14)), none, (.box 1)⟩, ⟨(some 16), (.build [.nils, .nils, .nils, .nils, (.bool false)] [(3, (1, (.t 13))), (4, (1, (.t 15)))]), none, .none⟩, ⟨(some 3), (.alloc [.nils, .nils, .nils, .nils, (.bool false)]), none, .none⟩, ⟨none, (.store 5 (.t 3) (.t 16)), none, (.box 3)⟩])
 (.seq (.seq (.reg [⟨(some 17), (.faddr 0 (.t 1)), none, .full⟩, ⟨(some 18), (.load 1 false (.t 17)), none, .full⟩, ⟨(some 19), (.len false (.t 18)), none, .full⟩, ⟨(some 20), (.mov (.c (.int .i64 0))), none, .full⟩])
 (.block 0 (.loop L21_0)))
 (.seq (.seq (.reg [⟨(some 33), (.faddr 2 (.t 1)), none, .full⟩, ⟨(some 34), (.load 1 false (.t 33)), none, .full⟩, ⟨(some 35), (.len false (.t 34)), none, .full⟩, ⟨(some 36), (.mov (.c (.int .i64 0))), none, .full⟩])
 (.block 2 (.loop L21_1)))
 (.seq (.seq (.reg [⟨(some 49), (.faddr 1 (.t 1)), none, .full⟩, ⟨(some 50), (.load 1 false (.t 49)), none, .full⟩, ⟨(some 51), (.len false (.t 50)), none, .full⟩, ⟨(some 52), (.mov (.c (.int .i64 0))), none, .full⟩])
 (.block 4 (.loop L21_2)))
 (.seq (.reg [⟨(some 69), (.load 5 true (.t 3)), none, .full⟩, ⟨none, (.store 5 (.t 2) (.t 69)), none, .full⟩])
 .ret))))))⟩
theorem ok21 : ∃ fn hh, Try.prog.funcs[21]? = some fn ∧ (∀ vals w, (callFunc 21 vals).run Try.prog w = .ok (.enter 21 vals) w) ∧ comp Try.prog hh fn = some F21 :=
  ⟨_, hintOf [(65, 3, []), (30, 1, []), (46, 1, [])], Try.func21, Try.call21, by kernel_rfl⟩
def F22 : TFunc := ⟨2, 30, [(.cell 4 4 true)],
 (.seq (.reg [⟨(some 2), (.box 4 (.t 0)), none, .full⟩, ⟨(some 3), (.box 4 (.t 1)), none, .full⟩, ⟨(some 4), (.alloc [(.bool false), .nils, (.bool false), .nils]), none, .full⟩])
 (.seq (.reg [⟨(some 10), (.load 4 true (.t 2)), none, .full⟩, ⟨(some 11), (.call 45 0 [] [(.t 10)]), none, .full⟩, ⟨(some 9), (.mov (.t 11)), none, .full⟩, ⟨(some 12), (.extract (.t 9) 0), none, .full⟩, ⟨(some 13), (.extract (.t 9) 1), none, .full⟩, ⟨(some 5), (.alloc [(.bool false), .nils]), none, .full⟩, ⟨(some 6), (.alloc [(.bool false), .nils]), none, .full⟩, ⟨none, (.store 2 (.t 5) (.t 12)), none, .full⟩, ⟨none, (.store 2 (.t 6) (.t 13)), none, .full⟩])
 (.seq (.reg [⟨(some 15), (.load 4 true (.t 3)), none, .full⟩, ⟨(some 16), (.call 45 0 [] [(.t 15)]), none, .full⟩, ⟨(some 14), (.mov (.t 16)), none, .full⟩, ⟨(some 17), (.extract (.t 14) 0), none, .full⟩, ⟨(some 18), (.extract (.t 14) 1), none, .full⟩, ⟨(some 7), (.alloc [(.bool false), .nils]), none, .full⟩, ⟨(some 8), (.alloc [(.bool false), .nils]), none, .full⟩, ⟨none, (.store 2 (.t 7) (.t 17)), none, .full⟩, ⟨none, (.store 2 (.t 8) (.t 18)), none, .full⟩])
 (.seq (.reg [⟨(some 19), (.load 2 true (.t 5)), none, (.box 5)⟩, ⟨(some 20), (.load 2 true (.t 8)), none, (.box 8)⟩, ⟨(some 21), (.call 48 0 [] [(.t 19), (.t 20)]), none, (.rd [])⟩, ⟨(some 22), (.load 2 true (.t 7)), none, (.box 7)⟩, ⟨(some 23), (.load 2 true (.t 6)), none, (.box 6)⟩, ⟨(some 24), (.call 48 0 [] [(.t 22), (.t 23)]), none, (.rd [])⟩, ⟨(some 25), (.call 47 0 [] [(.t 21), (.t 24)]), none, (.rd [])⟩, ⟨(some 26), (.load 2 true (.t 6)), none, (.box 6)⟩, ⟨(some 27), (.load 2 true (.t 8)), none, (.box 8)⟩, ⟨(some 28), (.call 48 0 [] [(.t 26), (.t 27)]), none, (.rd [])⟩, ⟨(some 29), (.call 46 0 [] [(.t 25), (.t 28)]), none, (.rd [])⟩, ⟨none, (.store 4 (.t 4) (.t 29)), none, (.box 4)⟩])
 .ret))))⟩
theorem ok22 : ∃ fn hh, Try.prog.funcs[22]? = some fn ∧ (∀ vals w, (callFunc 22 vals).run Try.prog w = .ok (.enter 22 vals) w) ∧ comp Try.prog hh fn = some F22 :=
  ⟨_, hintOf [], Try.func22, Try.call22, by kernel_rfl⟩
def F23 : TFunc := ⟨2, 26, [(.cell 4 4 true)],
 (.seq (.reg [⟨(some 2), (.box 4 (.t 0)), none, .full⟩, ⟨(some 3), (.box 4 (.t 1)), none, .full⟩, ⟨(some 4), (.alloc [(.bool false), .nils, (.bool false), .nils]), none, .full⟩])
 (.seq (.reg [⟨(some 10), (.load 4 true (.t 2)), none, .full⟩, ⟨(some 11), (.call 45 0 [] [(.t 10)]), none, .full⟩, ⟨(some 9), (.mov (.t 11)), none, .full⟩, ⟨(some 12), (.extract (.t 9) 0), none, .full⟩, ⟨(some 13), (.extract (.t 9) 1), none, .full⟩, ⟨(some 5), (.alloc [(.bool false), .nils]), none, .full⟩, ⟨(some 6), (.alloc [(.bool false), .nils]), none, .full⟩, ⟨none, (.store 2 (.t 5) (.t 12)), none, .full⟩, ⟨none, (.store 2 (.t 6) (.t 13)), none, .full⟩])
 (.seq (.reg [⟨(some 15), (.load 4 true (.t 3)), none, .full⟩, ⟨(some 16), (.call 45 0 [] [(.t 15)]), none, .full⟩, ⟨(some 14), (.mov (.t 16)), none, .full⟩, ⟨(some 17), (.extract (.t 14) 0), none, .full⟩, ⟨(some 18), (.extract (.t 14) 1), none, .full⟩, ⟨(some 7), (.alloc [(.bool false), .nils]), none, .full⟩, ⟨(some 8), (.alloc [(.bool false), .nils]), none, .full⟩, ⟨none, (.store 2 (.t 7) (.t 17)), none, .full⟩, ⟨none, (.store 2 (.t 8) (.t 18)), none, .full⟩])
 (.seq (.reg [⟨(some 19), (.load 2 true (.t 5)), none, (.box 5)⟩, ⟨(some 20), (.load 2 true (.t 7)), none, (.box 7)⟩, ⟨(some 21), (.call 48 0 [] [(.t 19), (.t 20)]), none, (.rd [])⟩, ⟨(some 22), (.load 2 true (.t 6)), none, (.box 6)⟩, ⟨(some 23), (.load 2 true (.t 8)), none, (.box 8)⟩, ⟨(some 24), (.call 48 0 [] [(.t 22), (.t 23)]), none, (.rd [])⟩, ⟨(some 25), (.call 46 0 [] [(.t 21), (.t 24)]), none, (.rd [])⟩, ⟨none, (.store 4 (.t 4) (.t 25)), none, (.box 4)⟩])
 .ret))))⟩
theorem ok23 : ∃ fn hh, Try.prog.funcs[23]? = some fn ∧ (∀ vals w, (callFunc 23 vals).run Try.prog w = .ok (.enter 23 vals) w) ∧ comp Try.prog hh fn = some F23 :=
  ⟨_, hintOf [], Try.func23, Try.call23, by kernel_rfl⟩
def L24_0 : TCode := (.seq (.seq (.reg [⟨(some 11), (.mov (.t 5)), none, .full⟩, ⟨(some 12), (.mov (.t 0)), none, .full⟩, ⟨(some 13), (.len false (.t 12)), none, .full⟩, ⟨(some 14), (.bin false .lss (.t 11) (.t 13)), none, .full⟩])
 (.cond (.t 14)
 .skip
 (.exit 0)))
 (.seq (.block 1 (.seq (.reg [⟨(some 17), (.mov (.t 0)), none, .none⟩, ⟨(some 18), (.mov (.t 5)), none, .none⟩, ⟨(some 19), (.iaddr 2 (.t 17) (.t 18)), none, .none⟩, ⟨(some 20), (.faddr 1 (.t 19)), none, .none⟩, ⟨(some 21), (.load 1 false (.t 20)), none, (.rd [])⟩, ⟨(some 22), (.mov (.t 1)), none, .none⟩, ⟨(some 23), (.mov (.t 5)), none, .none⟩, ⟨(some 24), (.iaddr 2 (.t 22) (.t 23)), none, .none⟩, ⟨(some 25), (.faddr 1 (.t 24)), none, .none⟩, ⟨(some 26), (.load 1 false (.t 25)), none, (.rd [])⟩, ⟨(some 27), (.bin false .neq (.t 21) (.t 26)), none, .none⟩, ⟨(some 28), (.mov (.t 27)), none, .none⟩, ⟨(some 29), (.mov (.t 0)), (some (28, false)), .none⟩, ⟨(some 30), (.mov (.t 5)), (some (28, false)), .none⟩, ⟨(some 31), (.iaddr 2 (.t 29) (.t 30)), (some (28, false)), .none⟩, ⟨(some 32), (.faddr 0 (.t 31)), (some (28, false)), .none⟩, ⟨(some 33), (.load 1 false (.t 32)), (some (28, false)), (.rd [])⟩, ⟨(some 34), (.mov (.t 1)), (some (28, false)), .none⟩, ⟨(some 35), (.mov (.t 5)), (some (28, false)), .none⟩, ⟨(some 36), (.iaddr 2 (.t 34) (.t 35)), (some (28, false)), .none⟩, ⟨(some 37), (.faddr 0 (.t 36)), (some (28, false)), .none⟩, ⟨(some 38), (.load 1 false (.t 37)), (some (28, false)), (.rd [])⟩, ⟨(some 39), (.call 49 0 [] [(.t 33), (.t 38)]), (some (28, false)), (.rd [])⟩, ⟨(some 40), (.un .not (.t 39)), (some (28, false)), .none⟩, ⟨(some 41), (.pick (.t 28) (.c (.bool true)) (.t 40)), none, .none⟩])
 (.cond (.t 41)
 (.seq (.reg [⟨(some 4), (.mov (.c (.bool false))), none, .full⟩])
 .ret)
 .skip)))
 (.reg [⟨(some 15), (.mov (.t 5)), none, .full⟩, ⟨(some 16), (.bin false .add (.t 15) (.c (.int .i64 1))), none, .full⟩, ⟨(some 5), (.mov (.t 16)), none, .full⟩])))
def F24 : TFunc := ⟨2, 42, [(.tmp 4)],
 (.seq (.reg [⟨(some 4), (.mov (.c (.bool false))), none, .full⟩])
 (.seq (.seq (.reg [⟨(some 6), (.mov (.t 0)), none, .full⟩, ⟨(some 7), (.len false (.t 6)), none, .full⟩, ⟨(some 8), (.mov (.t 1)), none, .full⟩, ⟨(some 9), (.len false (.t 8)), none, .full⟩, ⟨(some 10), (.bin false .neq (.t 7) (.t 9)), none, .full⟩])
 (.cond (.t 10)
 (.seq (.reg [⟨(some 4), (.mov (.c (.bool false))), none, .full⟩])
 .ret)
 .skip))
 (.seq (.seq (.reg [⟨(some 5), (.mov (.c (.int .i64 0))), none, .full⟩])
 (.block 0 (.loop L24_0)))
 (.seq (.reg [⟨(some 4), (.mov (.c (.bool true))), none, .full⟩])
 .ret))))⟩
theorem ok24 : ∃ fn hh, Try.prog.funcs[24]? = some fn ∧ (∀ vals w, (callFunc 24 vals).run Try.prog w = .ok (.enter 24 vals) w) ∧ comp Try.prog hh fn = some F24 :=
  ⟨_, hintOf [], Try.func24, Try.call24, by kernel_rfl⟩
def L25_0 : TCode := (.seq (.seq (.reg [⟨(some 11), (.mov (.t 5)), none, .full⟩, ⟨(some 12), (.mov (.t 0)), none, .full⟩, ⟨(some 13), (.len false (.t 12)), none, .full⟩, ⟨(some 14), (.bin false .lss (.t 11) (.t 13)), none, .full⟩])
 (.cond (.t 14)
 .skip
 (.exit 0)))
 (.seq (.block 1 (.seq (.reg [⟨(some 17), (.mov (.t 0)), none, .none⟩, ⟨(some 18), (.mov (.t 5)), none, .none⟩, ⟨(some 19), (.iaddr 3 (.t 17) (.t 18)), none, .none⟩, ⟨(some 20), (.load 3 true (.t 19)), none, (.rd [])⟩, ⟨(some 21), (.mov (.t 1)), none, .none⟩, ⟨(some 22), (.mov (.t 5)), none, .none⟩, ⟨(some 23), (.iaddr 3 (.t 21) (.t 22)), none, .none⟩, ⟨(some 24), (.load 3 true (.t 23)), none, (.rd [])⟩, ⟨(some 25), (.eqs true [0, 0, 1] (.t 20) (.t 24)), none, .none⟩])
 (.cond (.t 25)
 (.seq (.reg [⟨(some 4), (.mov (.c (.bool false))), none, .full⟩])
 .ret)
 .skip)))
 (.reg [⟨(some 15), (.mov (.t 5)), none, .full⟩, ⟨(some 16), (.bin false .add (.t 15) (.c (.int .i64 1))), none, .full⟩, ⟨(some 5), (.mov (.t 16)), none, .full⟩])))
def F25 : TFunc := ⟨2, 26, [(.tmp 4)],
 (.seq (.reg [⟨(some 4), (.mov (.c (.bool false))), none, .full⟩])
 (.seq (.seq (.reg [⟨(some 6), (.mov (.t 0)), none, .full⟩, ⟨(some 7), (.len false (.t 6)), none, .full⟩, ⟨(some 8), (.mov (.t 1)), none, .full⟩, ⟨(some 9), (.len false (.t 8)), none, .full⟩, ⟨(some 10), (.bin false .neq (.t 7) (.t 9)), none, .full⟩])
 (.cond (.t 10)
 (.seq (.reg [⟨(some 4), (.mov (.c (.bool false))), none, .full⟩])
 .ret)
 .skip))
 (.seq (.seq (.reg [⟨(some 5), (.mov (.c (.int .i64 0))), none, .full⟩])
 (.block 0 (.loop L25_0)))
 (.seq (.reg [⟨(some 4), (.mov (.c (.bool true))), none, .full⟩])
 .ret))))⟩
theorem ok25 : ∃ fn hh, Try.prog.funcs[25]? = some fn ∧ (∀ vals w, (callFunc 25 vals).run Try.prog w = .ok (.enter 25 vals) w) ∧ comp Try.prog hh fn = some F25 :=
  ⟨_, hintOf [], Try.func25, Try.call25, by kernel_rfl⟩
def F26 : TFunc := ⟨2, 20, [(.cell 4 4 true)],
 (.seq (.reg [⟨(some 2), (.box 4 (.t 0)), none, .full⟩, ⟨(some 3), (.box 4 (.t 1)), none, .full⟩, ⟨(some 4), (.alloc [(.bool false), .nils, (.bool false), .nils]), none, .full⟩])
 (.seq (.reg [⟨(some 5), (.load 4 true (.t 2)), none, (.box 2)⟩, ⟨(some 6), (.call 33 0 [] [(.t 5)]), none, (.rd [])⟩, ⟨(some 7), (.load 4 true (.t 3)), none, (.box 3)⟩, ⟨(some 8), (.call 33 0 [] [(.t 7)]), none, (.rd [])⟩, ⟨none, (.store 4 (.t 2) (.t 6)), none, (.box 2)⟩, ⟨none, (.store 4 (.t 3) (.t 8)), none, (.box 3)⟩])
 (.seq (.reg [⟨(some 9), (.faddr 0 (.t 2)), none, .none⟩, ⟨(some 10), (.load 2 true (.t 9)), none, (.box 2)⟩, ⟨(some 11), (.faddr 2 (.t 3)), none, .none⟩, ⟨(some 12), (.load 2 true (.t 11)), none, (.box 3)⟩, ⟨(some 13), (.call 34 0 [] [(.t 10), (.t 12)]), none, (.rd [])⟩, ⟨(some 14), (.faddr 2 (.t 2)), none, .none⟩, ⟨(some 15), (.load 2 true (.t 14)), none, (.box 2)⟩, ⟨(some 16), (.faddr 0 (.t 3)), none, .none⟩, ⟨(some 17), (.load 2 true (.t 16)), none, (.box 3)⟩, ⟨(some 18), (.call 34 0 [] [(.t 15), (.t 17)]), none, (.rd [])⟩, ⟨(some 19), (.call 17 0 [] [(.t 13), (.t 18)]), none, (.rd [])⟩, ⟨none, (.store 4 (.t 4) (.t 19)), none, (.box 4)⟩])
 .ret)))⟩
theorem ok26 : ∃ fn hh, Try.prog.funcs[26]? = some fn ∧ (∀ vals w, (callFunc 26 vals).run Try.prog w = .ok (.enter 26 vals) w) ∧ comp Try.prog hh fn = some F26 :=
  ⟨_, hintOf [], Try.func26, Try.call26, by kernel_rfl⟩
def F27 : TFunc := ⟨2, 9, [(.cell 4 4 true)],
 (.seq (.reg [⟨(some 2), (.box 4 (.t 0)), none, .full⟩, ⟨(some 3), (.box 4 (.t 1)), none, .full⟩, ⟨(some 4), (.alloc [(.bool false), .nils, (.bool false), .nils]), none, .full⟩])
 (.seq (.reg [⟨(some 5), (.load 4 true (.t 2)), none, (.box 2)⟩, ⟨(some 6), (.load 4 true (.t 3)), none, (.box 3)⟩, ⟨(some 7), (.call 16 0 [] [(.t 6)]), none, (.rd [])⟩, ⟨(some 8), (.call 28 0 [] [(.t 5), (.t 7)]), none, (.rd [])⟩, ⟨none, (.store 4 (.t 4) (.t 8)), none, (.box 4)⟩])
 .ret))⟩
theorem ok27 : ∃ fn hh, Try.prog.funcs[27]? = some fn ∧ (∀ vals w, (callFunc 27 vals).run Try.prog w = .ok (.enter 27 vals) w) ∧ comp Try.prog hh fn = some F27 :=
  ⟨_, hintOf [], Try.func27, Try.call27, by kernel_rfl⟩
def F28 : TFunc := ⟨2, 26, [(.cell 4 4 true)],
 (.seq (.reg [⟨(some 2), (.box 4 (.t 0)), none, .full⟩, ⟨(some 3), (.box 4 (.t 1)), none, .full⟩, ⟨(some 4), (.alloc [(.bool false), .nils, (.bool false), .nils]), none, .full⟩])
 (.seq (.reg [⟨(some 5), (.load 4 true (.t 2)), none, (.box 2)⟩, ⟨(some 6), (.call 33 0 [] [(.t 5)]), none, (.rd [])⟩, ⟨(some 7), (.load 4 true (.t 3)), none, (.box 3)⟩, ⟨(some 8), (.call 33 0 [] [(.t 7)]), none, (.rd [])⟩, ⟨none, (.store 4 (.t 2) (.t 6)), none, (.box 2)⟩, ⟨none, (.store 4 (.t 3) (.t 8)), none, (.box 3)⟩])
 (.seq (.reg [⟨(some 9), (.faddr 0 (.t 2)), none, .none⟩, ⟨(some 10), (.load 2 true (.t 9)), none, (.box 2)⟩, ⟨(some 11), (.faddr 2 (.t 3)), none, .none⟩, ⟨(some 12), (.load 2 true (.t 11)), none, (.box 3)⟩, ⟨(some 13), (.call 34 0 [] [(.t 10), (.t 12)]), none, (.rd [])⟩, ⟨(some 14), (.faddr 0 (.t 3)), none, .none⟩, ⟨(some 15), (.load 2 true (.t 14)), none, (.box 3)⟩, ⟨(some 16), (.faddr 2 (.t 2)), none, .none⟩, ⟨(some 17), (.load 2 true (.t 16)), none, (.box 2)⟩, ⟨(some 18), (.call 34 0 [] [(.t 15), (.t 17)]), none, (.rd [])⟩, ⟨(some 19), (.call 50 0 [] [(.t 13), (.t 18)]), none, (.rd [])⟩, ⟨(some 20), (.faddr 2 (.t 2)), none, .none⟩, ⟨(some 21), (.load 2 true (.t 20)), none, (.box 2)⟩, ⟨(some 22), (.faddr 2 (.t 3)), none, .none⟩, ⟨(some 23), (.load 2 true (.t 22)), none, (.box 3)⟩, ⟨(some 24), (.call 34 0 [] [(.t 21), (.t 23)]), none, (.rd [])⟩, ⟨(some 25), (.call 17 0 [] [(.t 19), (.t 24)]), none, (.rd [])⟩, ⟨none, (.store 4 (.t 4) (.t 25)), none, (.box 4)⟩])
 .ret)))⟩
theorem ok28 : ∃ fn hh, Try.prog.funcs[28]? = some fn ∧ (∀ vals w, (callFunc 28 vals).run Try.prog w = .ok (.enter 28 vals) w) ∧ comp Try.prog hh fn = some F28 :=
  ⟨_, hintOf [], Try.func28, Try.call28, by kernel_rfl⟩
def L29_0 : TCode := (.seq (.seq (.reg [⟨(some 11), (.mov (.t 5)), none, .full⟩, ⟨(some 12), (.mov (.t 0)), none, .full⟩, ⟨(some 13), (.len false (.t 12)), none, .full⟩, ⟨(some 14), (.bin false .lss (.t 11) (.t 13)), none, .full⟩])
 (.cond (.t 14)
 .skip
 (.exit 0)))
 (.seq (.block 1 (.seq (.reg [⟨(some 17), (.mov (.t 0)), none, .none⟩, ⟨(some 18), (.mov (.t 5)), none, .none⟩, ⟨(some 19), (.iaddr 4 (.t 17) (.t 18)), none, .none⟩, ⟨(some 20), (.load 4 true (.t 19)), none, (.rd [])⟩, ⟨(some 21), (.mov (.t 1)), none, .none⟩, ⟨(some 22), (.mov (.t 5)), none, .none⟩, ⟨(some 23), (.iaddr 4 (.t 21) (.t 22)), none, .none⟩, ⟨(some 24), (.load 4 true (.t 23)), none, (.rd [])⟩, ⟨(some 25), (.call 32 0 [] [(.t 20), (.t 24)]), none, (.rd [])⟩, ⟨(some 26), (.un .not (.t 25)), none, .none⟩])
 (.cond (.t 26)
 (.seq (.reg [⟨(some 4), (.mov (.c (.bool false))), none, .full⟩])
 .ret)
 .skip)))
 (.reg [⟨(some 15), (.mov (.t 5)), none, .full⟩, ⟨(some 16), (.bin false .add (.t 15) (.c (.int .i64 1))), none, .full⟩, ⟨(some 5), (.mov (.t 16)), none, .full⟩])))
def F29 : TFunc := ⟨2, 27, [(.tmp 4)],
 (.seq (.reg [⟨(some 4), (.mov (.c (.bool false))), none, .full⟩])
 (.seq (.seq (.reg [⟨(some 6), (.mov (.t 0)), none, .full⟩, ⟨(some 7), (.len false (.t 6)), none, .full⟩, ⟨(some 8), (.mov (.t 1)), none, .full⟩, ⟨(some 9), (.len false (.t 8)), none, .full⟩, ⟨(some 10), (.bin false .neq (.t 7) (.t 9)), none, .full⟩])
 (.cond (.t 10)
 (.seq (.reg [⟨(some 4), (.mov (.c (.bool false))), none, .full⟩])
 .ret)
 .skip))
 (.seq (.seq (.reg [⟨(some 5), (.mov (.c (.int .i64 0))), none, .full⟩])
 (.block 0 (.loop L29_0)))
 (.seq (.reg [⟨(some 4), (.mov (.c (.bool true))), none, .full⟩])
 .ret))))⟩
theorem ok29 : ∃ fn hh, Try.prog.funcs[29]? = some fn ∧ (∀ vals w, (callFunc 29 vals).run Try.prog w = .ok (.enter 29 vals) w) ∧ comp Try.prog hh fn = some F29 :=
  ⟨_, hintOf [], Try.func29, Try.call29, by kernel_rfl⟩
def L30_0 : TCode := (.seq (.reg [⟨(some 43), (.bin false .lss (.t 42) (.t 41)), none, .full⟩])
 (.seq (.cond (.t 43)
 .skip
 (.exit 0))
 (.seq (.block 1 (.seq (.reg [⟨(some 44), (.iaddr 1 (.t 40) (.t 42)), none, .full⟩, ⟨(some 45), (.load 1 false (.t 44)), none, .full⟩, ⟨(some 12), (.mov (.t 45)), none, .full⟩])
 (.reg [⟨(some 46), (.mov (.t 10)), none, .full⟩, ⟨(some 47), (.mov (.t 12)), none, .full⟩, ⟨(some 48), (.iaddr 1 (.t 46) (.t 47)), none, .full⟩, ⟨none, (.store 1 (.t 48) (.c (.bool true))), none, .full⟩])))
 (.reg [⟨(some 49), (.bin false .add (.t 42) (.c (.int .i64 1))), none, .full⟩, ⟨(some 42), (.mov (.t 49)), none, .full⟩]))))
def L30_2 : TCode := (.seq (.reg [⟨(some 61), (.bin false .lss (.t 60) (.t 59)), none, .full⟩])
 (.seq (.cond (.t 61)
 .skip
 (.exit 4))
 (.seq (.block 5 (.seq (.reg [⟨(some 62), (.iaddr 1 (.t 58) (.t 60)), none, .full⟩, ⟨(some 63), (.load 1 false (.t 62)), none, .full⟩, ⟨(some 16), (.mov (.t 63)), none, .full⟩])
 (.seq (.reg [⟨(some 64), (.mov (.t 10)), none, .full⟩, ⟨(some 65), (.mov (.t 16)), none, .full⟩, ⟨(some 66), (.iaddr 1 (.t 64) (.t 65)), none, .full⟩, ⟨(some 67), (.load 1 false (.t 66)), none, .full⟩, ⟨(some 68), (.un .not (.t 67)), none, .full⟩])
 (.cond (.t 68)
 (.seq (.reg [⟨(some 69), (.build [(.bool false), .nils, (.bool false), .nils] []), none, .full⟩, ⟨none, (.store 4 (.t 6) (.t 69)), none, .full⟩, ⟨(some 7), (.mov (.c (.int .i64 5))), none, .full⟩])
 .ret)
 .skip))))
 (.reg [⟨(some 70), (.bin false .add (.t 60) (.c (.int .i64 1))), none, .full⟩, ⟨(some 60), (.mov (.t 70)), none, .full⟩]))))
def L30_1 : TCode := (.seq (.reg [⟨(some 54), (.bin false .lss (.t 53) (.t 52)), none, .full⟩])
 (.seq (.cond (.t 54)
 .skip
 (.exit 2))
 (.seq (.block 3 (.seq (.reg [⟨(some 55), (.iaddr 2 (.t 51) (.t 53)), none, .full⟩, ⟨(some 56), (.load 2 true (.t 55)), none, .full⟩, ⟨(some 14), (.alloc [.nils, (.int .i64 0)]), none, .full⟩, ⟨none, (.store 2 (.t 14) (.t 56)), none, .full⟩])
 (.seq (.reg [⟨(some 57), (.faddr 0 (.t 14)), none, .full⟩, ⟨(some 58), (.load 1 false (.t 57)), none, .full⟩, ⟨(some 59), (.len false (.t 58)), none, .full⟩, ⟨(some 60), (.mov (.c (.int .i64 0))), none, .full⟩])
 (.block 4 (.loop L30_2)))))
 (.reg [⟨(some 71), (.bin false .add (.t 53) (.c (.int .i64 1))), none, .full⟩, ⟨(some 53), (.mov (.t 71)), none, .full⟩]))))
def L30_3 : TCode := (.seq (.reg [⟨(some 80), (.bin false .lss (.t 79) (.t 78)), none, .full⟩])
 (.seq (.cond (.t 80)
 .skip
 (.exit 6))
 (.seq (.block 7 (.seq (.reg [⟨(some 81), (.iaddr 1 (.t 77) (.t 79)), none, .full⟩, ⟨(some 82), (.load 1 false (.t 81)), none, .full⟩, ⟨(some 19), (.mov (.t 82)), none, .full⟩])
 (.reg [⟨(some 83), (.load 4 true (.t 17)), none, (.box 17)⟩, ⟨(some 84), (.faddr 0 (.t 4)), none, .none⟩, ⟨(some 85), (.load 1 false (.t 84)), none, (.box 4)⟩, ⟨(some 86), (.mov (.t 19)), none, .none⟩, ⟨(some 87), (.iaddr 4 (.t 85) (.t 86)), none, .none⟩, ⟨(some 88), (.load 4 true (.t 87)), none, (.rd [])⟩, ⟨(some 89), (.faddr 2 (.t 3)), none, .none⟩, ⟨(some 90), (.load 1 false (.t 89)), none, (.box 3)⟩, ⟨(some 91), (.call 44 0 [] [(.t 90)]), none, (.rd [])⟩, ⟨(some 92), (.call 53 0 [] [(.t 88), (.t 91)]), none, (.rd [])⟩, ⟨(some 93), (.call 22 0 [] [(.t 83), (.t 92)]), none, (.rd [])⟩, ⟨none, (.store 4 (.t 17) (.t 93)), none, (.box 17)⟩])))
 (.reg [⟨(some 94), (.bin false .add (.t 79) (.c (.int .i64 1))), none, .full⟩, ⟨(some 79), (.mov (.t 94)), none, .full⟩]))))
def L30_4 : TCode := (.seq (.reg [⟨(some 99), (.bin false .lss (.t 98) (.t 97)), none, .full⟩])
 (.seq (.cond (.t 99)
 .skip
 (.exit 8))
 (.seq (.block 9 (.seq (.reg [⟨(some 100), (.mov (.t 98)), none, .full⟩, ⟨(some 101), (.iaddr 2 (.t 96) (.t 98)), none, .full⟩, ⟨(some 102), (.load 2 true (.t 101)), none, .full⟩, ⟨(some 21), (.alloc [.nils, (.int .i64 0)]), none, .full⟩, ⟨(some 20), (.mov (.t 100)), none, .full⟩, ⟨none, (.store 2 (.t 21) (.t 102)), none, .full⟩])
 (.reg [⟨(some 103), (.load 4 true (.t 17)), none, (.box 17)⟩, ⟨(some 104), (.faddr 2 (.t 4)), none, .none⟩, ⟨(some 105), (.load 1 false (.t 104)), none, (.box 4)⟩, ⟨(some 106), (.mov (.t 20)), none, .none⟩, ⟨(some 107), (.iaddr 4 (.t 105) (.t 106)), none, .none⟩, ⟨(some 108), (.load 4 true (.t 107)), none, (.rd [])⟩, ⟨(some 109), (.faddr 0 (.t 21)), none, .none⟩, ⟨(some 110), (.load 1 false (.t 109)), none, (.box 21)⟩, ⟨(some 111), (.len false (.t 110)), none, .none⟩, ⟨(some 112), (.faddr 1 (.t 21)), none, .none⟩, ⟨(some 113), (.load 1 false (.t 112)), none, (.box 21)⟩, ⟨(some 114), (.bin false .quo (.t 111) (.t 113)), none, .none⟩, ⟨(some 115), (.call 44 0 [] [(.t 114)]), none, (.rd [])⟩, ⟨(some 116), (.call 23 0 [] [(.t 108), (.t 115)]), none, (.rd [])⟩, ⟨(some 117), (.call 22 0 [] [(.t 103), (.t 116)]), none, (.rd [])⟩, ⟨none, (.store 4 (.t 17) (.t 117)), none, (.box 17)⟩])))
 (.reg [⟨(some 118), (.bin false .add (.t 98) (.c (.int .i64 1))), none, .full⟩, ⟨(some 98), (.mov (.t 118)), none, .full⟩]))))
def F30 : TFunc := ⟨3, 129, [(.cell 6 4 true), (.tmp 7)],
 (.seq (.reg [⟨(some 3), (.box 5 (.t 0)), none, .full⟩, ⟨(some 4), (.box 5 (.t 1)), none, .full⟩, ⟨(some 5), (.box 4 (.t 2)), none, .full⟩, ⟨(some 6), (.alloc [(.bool false), .nils, (.bool false), .nils]), none, .full⟩, ⟨(some 7), (.mov (.c (.int .i64 0))), none, .full⟩])
 (.seq (.seq (.reg [⟨(some 22), (.load 5 true (.t 3)), none, .full⟩, ⟨(some 23), (.call 51 0 [] [(.t 22)]), none, .full⟩, ⟨(some 8), (.mov (.t 23)), none, .full⟩])
 (.seq (.reg [⟨(some 24), (.mov (.t 8)), none, .full⟩, ⟨(some 25), (.bin false .neq (.t 24) (.c (.int .i64 0))), none, .full⟩])
 (.cond (.t 25)
 (.seq (.reg [⟨(some 26), (.build [(.bool false), .nils, (.bool false), .nils] []), none, .full⟩, ⟨(some 27), (.mov (.t 8)), none, .full⟩, ⟨none, (.store 4 (.t 6) (.t 26)), none, .full⟩, ⟨(some 7), (.mov (.t 27)), none, .full⟩])
 .ret)
 .skip)))
 (.seq (.seq (.reg [⟨(some 28), (.faddr 0 (.t 3)), none, .full⟩, ⟨(some 29), (.load 1 false (.t 28)), none, .full⟩, ⟨(some 30), (.load 5 true (.t 4)), none, .full⟩, ⟨(some 31), (.call 52 0 [] [(.t 29), (.t 30)]), none, .full⟩, ⟨(some 9), (.mov (.t 31)), none, .full⟩])
 (.seq (.reg [⟨(some 32), (.mov (.t 9)), none, .full⟩, ⟨(some 33), (.bin false .neq (.t 32) (.c (.int .i64 0))), none, .full⟩])
 (.cond (.t 33)
 (.seq (.reg [⟨(some 34), (.build [(.bool false), .nils, (.bool false), .nils] []), none, .full⟩, ⟨(some 35), (.mov (.t 9)), none, .full⟩, ⟨none, (.store 4 (.t 6) (.t 34)), none, .full⟩, ⟨(some 7), (.mov (.t 35)), none, .full⟩])
 .ret)
 .skip)))
 (.seq (.reg [⟨(some 36), (.faddr 0 (.t 3)), none, .full⟩, ⟨(some 37), (.load 1 false (.t 36)), none, .full⟩, ⟨(some 38), (.mk 1 [(.bool false)] (.t 37)), none, .full⟩, ⟨(some 10), (.mov (.t 38)), none, .full⟩])
 (.seq (.seq (.reg [⟨(some 39), (.faddr 1 (.t 3)), none, .full⟩, ⟨(some 40), (.load 1 false (.t 39)), none, .full⟩, ⟨(some 41), (.len false (.t 40)), none, .full⟩, ⟨(some 42), (.mov (.c (.int .i64 0))), none, .full⟩])
 (.block 0 (.loop L30_0)))
 (.seq (.seq (.reg [⟨(some 50), (.faddr 1 (.t 4)), none, .full⟩, ⟨(some 51), (.load 1 false (.t 50)), none, .full⟩, ⟨(some 52), (.len false (.t 51)), none, .full⟩, ⟨(some 53), (.mov (.c (.int .i64 0))), none, .full⟩])
 (.block 2 (.loop L30_1)))
 (.seq (.seq (.reg [⟨(some 72), (.faddr 4 (.t 4)), none, .full⟩, ⟨(some 73), (.load 1 false (.t 72)), none, .full⟩])
 (.cond (.t 73)
 (.seq (.reg [⟨(some 74), (.build [(.bool false), .nils, (.bool false), .nils] []), none, .full⟩, ⟨none, (.store 4 (.t 6) (.t 74)), none, .full⟩, ⟨(some 7), (.mov (.c (.int .i64 16))), none, .full⟩])
 .ret)
 .skip))
 (.seq (.reg [⟨(some 75), (.call 44 0 [] [(.c (.int .i64 0))]), none, .full⟩, ⟨(some 17), (.alloc [(.bool false), .nils, (.bool false), .nils]), none, .full⟩, ⟨none, (.store 4 (.t 17) (.t 75)), none, .full⟩])
 (.seq (.seq (.reg [⟨(some 76), (.faddr 1 (.t 3)), none, .full⟩, ⟨(some 77), (.load 1 false (.t 76)), none, .full⟩, ⟨(some 78), (.len false (.t 77)), none, .full⟩, ⟨(some 79), (.mov (.c (.int .i64 0))), none, .full⟩])
 (.block 6 (.loop L30_3)))
 (.seq (.seq (.reg [⟨(some 95), (.faddr 1 (.t 4)), none, .full⟩, ⟨(some 96), (.load 1 false (.t 95)), none, .full⟩, ⟨(some 97), (.len false (.t 96)), none, .full⟩, ⟨(some 98), (.mov (.c (.int .i64 0))), none, .full⟩])
 (.block 8 (.loop L30_4)))
 (.seq (.reg [⟨(some 119), (.load 4 true (.t 17)), none, (.box 17)⟩, ⟨(some 120), (.faddr 1 (.t 3)), none, .none⟩, ⟨(some 121), (.load 1 false (.t 120)), none, (.box 3)⟩, ⟨(some 122), (.len false (.t 121)), none, .none⟩, ⟨(some 123), (.call 44 0 [] [(.t 122)]), none, (.rd [])⟩, ⟨(some 124), (.load 4 true (.t 5)), none, (.box 5)⟩, ⟨(some 125), (.call 44 0 [] [(.c (.int .i64 0))]), none, (.rd [])⟩, ⟨(some 126), (.call 53 0 [] [(.t 124), (.t 125)]), none, (.rd [])⟩, ⟨(some 127), (.call 23 0 [] [(.t 123), (.t 126)]), none, (.rd [])⟩, ⟨(some 128), (.call 22 0 [] [(.t 119), (.t 127)]), none, (.rd [])⟩, ⟨none, (.store 4 (.t 6) (.t 128)), none, (.box 6)⟩, ⟨(some 7), (.mov (.c (.int .i64 0))), none, .none⟩])
 .ret)))))))))))⟩
theorem ok30 : ∃ fn hh, Try.prog.funcs[30]? = some fn ∧ (∀ vals w, (callFunc 30 vals).run Try.prog w = .ok (.enter 30 vals) w) ∧ comp Try.prog hh fn = some F30 :=
  ⟨_, hintOf [], Try.func30, Try.call30, by kernel_rfl⟩
def F31 : TFunc := ⟨1, 23, [(.tmp 2), (.tmp 3)],
 (.seq (.reg [⟨(some 1), (.box 4 (.t 0)), none, .full⟩, ⟨(some 2), (.mov (.c (.int .i64 0))), none, .full⟩, ⟨(some 3), (.mov (.c (.int .i64 0))), none, .full⟩])
 (.seq (.reg [⟨(some 7), (.load 4 true (.t 1)), none, .full⟩, ⟨(some 8), (.call 55 0 [] [(.t 7)]), none, .full⟩, ⟨(some 9), (.call 54 0 [] [(.t 8)]), none, .full⟩, ⟨(some 6), (.mov (.t 9)), none, .full⟩, ⟨(some 10), (.extract (.t 6) 0), none, .full⟩, ⟨(some 11), (.extract (.t 6) 1), none, .full⟩, ⟨(some 4), (.mov (.t 10)), none, .full⟩, ⟨(some 5), (.mov (.t 11)), none, .full⟩])
 (.seq (.seq (.reg [⟨(some 12), (.mov (.t 5)), none, .full⟩, ⟨(some 13), (.bin false .neq (.t 12) (.c (.int .i64 0))), none, .full⟩, ⟨(some 14), (.mov (.t 13)), none, .full⟩, ⟨(some 15), (.mov (.t 4)), (some (14, false)), .full⟩, ⟨(some 16), (.bin false .lss (.t 15) (.c (.int .i64 (-1152921504606846976)))), (some (14, false)), .full⟩, ⟨(some 17), (.pick (.t 14) (.c (.bool true)) (.t 16)), none, .full⟩, ⟨(some 18), (.mov (.t 17)), none, .full⟩, ⟨(some 19), (.mov (.t 4)), (some (18, false)), .full⟩, ⟨(some 20), (.bin false .gtr (.t 19) (.c (.int .i64 1152921504606846976))), (some (18, false)), .full⟩, ⟨(some 21), (.pick (.t 18) (.c (.bool true)) (.t 20)), none, .full⟩])
 (.cond (.t 21)
 (.seq (.reg [⟨(some 2), (.mov (.c (.int .i64 0))), none, .full⟩, ⟨(some 3), (.mov (.c (.int .i64 5))), none, .full⟩])
 .ret)
 .skip))
 (.seq (.reg [⟨(some 22), (.mov (.t 4)), none, .full⟩, ⟨(some 2), (.mov (.t 22)), none, .full⟩, ⟨(some 3), (.mov (.c (.int .i64 0))), none, .full⟩])
 .ret))))⟩
theorem ok31 : ∃ fn hh, Try.prog.funcs[31]? = some fn ∧ (∀ vals w, (callFunc 31 vals).run Try.prog w = .ok (.enter 31 vals) w) ∧ comp Try.prog hh fn = some F31 :=
  ⟨_, hintOf [], Try.func31, Try.call31, by kernel_rfl⟩
def F32 : TFunc := ⟨2, 17, [(.tmp 4)],
 (.seq (.reg [⟨(some 2), (.box 4 (.t 0)), none, .full⟩, ⟨(some 3), (.box 4 (.t 1)), none, .full⟩, ⟨(some 4), (.mov (.c (.bool false))), none, .full⟩])
 (.seq (.reg [⟨(some 5), (.faddr 0 (.t 2)), none, .full⟩, ⟨(some 6), (.load 2 true (.t 5)), none, .full⟩, ⟨(some 7), (.faddr 0 (.t 3)), none, .full⟩, ⟨(some 8), (.load 2 true (.t 7)), none, .full⟩, ⟨(some 9), (.call 56 0 [] [(.t 6), (.t 8)]), none, .full⟩, ⟨(some 10), (.mov (.t 9)), none, .full⟩, ⟨(some 11), (.faddr 2 (.t 2)), (some (10, true)), .full⟩, ⟨(some 12), (.load 2 true (.t 11)), (some (10, true)), .full⟩, ⟨(some 13), (.faddr 2 (.t 3)), (some (10, true)), .full⟩, ⟨(some 14), (.load 2 true (.t 13)), (some (10, true)), .full⟩, ⟨(some 15), (.call 56 0 [] [(.t 12), (.t 14)]), (some (10, true)), .full⟩, ⟨(some 16), (.pick (.t 10) (.t 15) (.c (.bool false))), none, .full⟩, ⟨(some 4), (.mov (.t 16)), none, .full⟩])
 .ret))⟩
theorem ok32 : ∃ fn hh, Try.prog.funcs[32]? = some fn ∧ (∀ vals w, (callFunc 32 vals).run Try.prog w = .ok (.enter 32 vals) w) ∧ comp Try.prog hh fn = some F32 :=
  ⟨_, hintOf [], Try.func32, Try.call32, by kernel_rfl⟩
def F33 : TFunc := ⟨1, 8, [(.cell 2 4 true)],
 (.seq (.reg [⟨(some 1), (.box 4 (.t 0)), none, .full⟩, ⟨(some 2), (.alloc [(.bool false), .nils, (.bool false), .nils]), none, .full⟩])
 (.seq (.reg [⟨(some 3), (.faddr 0 (.t 1)), none, .full⟩, ⟨(some 4), (.load 2 true (.t 3)), none, .full⟩, ⟨(some 5), (.faddr 2 (.t 1)), none, .full⟩, ⟨(some 6), (.load 2 true (.t 5)), none, .full⟩, ⟨(some 7), (.call 17 0 [] [(.t 4), (.t 6)]), none, .full⟩, ⟨none, (.store 4 (.t 2) (.t 7)), none, .full⟩])
 .ret))⟩
theorem ok33 : ∃ fn hh, Try.prog.funcs[33]? = some fn ∧ (∀ vals w, (callFunc 33 vals).run Try.prog w = .ok (.enter 33 vals) w) ∧ comp Try.prog hh fn = some F33 :=
  ⟨_, hintOf [], Try.func33, Try.call33, by kernel_rfl⟩
def F34 : TFunc := ⟨2, 16, [(.cell 4 2 true)],
 (.seq (.reg [⟨(some 2), (.box 2 (.t 0)), none, .full⟩, ⟨(some 3), (.box 2 (.t 1)), none, .full⟩, ⟨(some 4), (.alloc [(.bool false), .nils]), none, .full⟩])
 (.seq (.reg [⟨(some 5), (.faddr 0 (.t 2)), none, .none⟩, ⟨(some 6), (.load 1 false (.t 5)), none, (.box 2)⟩, ⟨(some 7), (.faddr 0 (.t 3)), none, .none⟩, ⟨(some 8), (.load 1 false (.t 7)), none, (.box 3)⟩, ⟨(some 9), (.bin true .neq (.t 6) (.t 8)), none, .none⟩, ⟨(some 10), (.faddr 1 (.t 2)), none, .none⟩, ⟨(some 11), (.load 1 false (.t 10)), none, (.box 2)⟩, ⟨(some 12), (.faddr 1 (.t 3)), none, .none⟩, ⟨(some 13), (.load 1 false (.t 12)), none, (.box 3)⟩, ⟨(some 14), (.call 57 0 [] [(.t 11), (.t 13)]), none, (.rd [])⟩, ⟨(some 15), (.call 40 0 [] [(.t 9), (.t 14)]), none, (.rd [])⟩, ⟨none, (.store 2 (.t 4) (.t 15)), none, (.box 4)⟩])
 .ret))⟩
theorem ok34 : ∃ fn hh, Try.prog.funcs[34]? = some fn ∧ (∀ vals w, (callFunc 34 vals).run Try.prog w = .ok (.enter 34 vals) w) ∧ comp Try.prog hh fn = some F34 :=
  ⟨_, hintOf [], Try.func34, Try.call34, by kernel_rfl⟩
def F35 : TFunc := ⟨1, 6, [(.tmp 2)],
 (.seq (.reg [⟨(some 1), (.box 2 (.t 0)), none, .full⟩, ⟨(some 2), (.mov (.c (.int .i64 0))), none, .full⟩])
 (.seq (.reg [⟨(some 3), (.load 2 true (.t 1)), none, .full⟩, ⟨(some 4), (.build [(.bool false), .nils] []), none, .full⟩, ⟨(some 5), (.call 58 0 [] [(.t 3), (.t 4)]), none, .full⟩, ⟨(some 2), (.mov (.t 5)), none, .full⟩])
 .ret))⟩
theorem ok35 : ∃ fn hh, Try.prog.funcs[35]? = some fn ∧ (∀ vals w, (callFunc 35 vals).run Try.prog w = .ok (.enter 35 vals) w) ∧ comp Try.prog hh fn = some F35 :=
  ⟨_, hintOf [], Try.func35, Try.call35, by kernel_rfl⟩
def F36 : TFunc := ⟨1, 9, [(.cell 2 2 true)],
 (.seq (.reg [⟨(some 1), (.box 2 (.t 0)), none, .full⟩, ⟨(some 2), (.alloc [(.bool false), .nils]), none, .full⟩])
 (.seq (.reg [⟨(some 3), (.faddr 0 (.t 1)), none, .full⟩, ⟨(some 4), (.load 1 false (.t 3)), none, .full⟩, ⟨(some 5), (.un .not (.t 4)), none, .full⟩, ⟨(some 6), (.faddr 1 (.t 1)), none, .full⟩, ⟨(some 7), (.load 1 false (.t 6)), none, .full⟩, ⟨(some 8), (.call 40 0 [] [(.t 5), (.t 7)]), none, .full⟩, ⟨none, (.store 2 (.t 2) (.t 8)), none, .full⟩])
 .ret))⟩
theorem ok36 : ∃ fn hh, Try.prog.funcs[36]? = some fn ∧ (∀ vals w, (callFunc 36 vals).run Try.prog w = .ok (.enter 36 vals) w) ∧ comp Try.prog hh fn = some F36 :=
  ⟨_, hintOf [], Try.func36, Try.call36, by kernel_rfl⟩
def L37_0 : TCode := (.seq (.seq (.reg [⟨(some 17), (.mov (.t 6)), none, .full⟩, ⟨(some 18), (.len false (.t 17)), none, .full⟩, ⟨(some 19), (.bin false .gtr (.t 18) (.c (.int .i64 0))), none, .full⟩])
 (.cond (.t 19)
 .skip
 (.exit 0)))
 (.block 1 (.seq (.reg [⟨(some 21), (.mov (.t 5)), none, .full⟩, ⟨(some 22), (.mov (.t 6)), none, .full⟩, ⟨(some 23), (.call 60 0 [] [(.t 21), (.t 22)]), none, .full⟩, ⟨(some 20), (.mov (.t 23)), none, .full⟩, ⟨(some 24), (.extract (.t 20) 0), none, .full⟩, ⟨(some 25), (.extract (.t 20) 1), none, .full⟩, ⟨(some 7), (.mov (.t 24)), none, .full⟩, ⟨(some 8), (.mov (.t 25)), none, .full⟩])
 (.reg [⟨(some 26), (.mov (.t 6)), none, .full⟩, ⟨(some 27), (.mov (.t 8)), none, .full⟩, ⟨(some 5), (.mov (.t 26)), none, .full⟩, ⟨(some 6), (.mov (.t 27)), none, .full⟩]))))
def F37 : TFunc := ⟨2, 30, [(.cell 4 2 true)],
 (.seq (.reg [⟨(some 2), (.box 2 (.t 0)), none, .full⟩, ⟨(some 3), (.box 2 (.t 1)), none, .full⟩, ⟨(some 4), (.alloc [(.bool false), .nils]), none, .full⟩])
 (.seq (.reg [⟨(some 9), (.faddr 1 (.t 2)), none, .none⟩, ⟨(some 10), (.load 1 false (.t 9)), none, (.box 2)⟩, ⟨(some 11), (.call 59 0 [] [(.t 10)]), none, (.rd [])⟩, ⟨(some 12), (.app 1 false (.c .nils) (.t 11)), none, (.fb [])⟩, ⟨(some 13), (.faddr 1 (.t 3)), none, .none⟩, ⟨(some 14), (.load 1 false (.t 13)), none, (.box 3)⟩, ⟨(some 15), (.call 59 0 [] [(.t 14)]), none, (.rd [])⟩, ⟨(some 16), (.app 1 false (.c .nils) (.t 15)), none, (.fb [])⟩, ⟨(some 5), (.mov (.t 12)), none, .none⟩, ⟨(some 6), (.mov (.t 16)), none, .none⟩])
 (.seq (.block 0 (.loop L37_0))
 (.seq (.reg [⟨(some 28), (.mov (.t 5)), none, .full⟩, ⟨(some 29), (.call 40 0 [] [(.c (.bool false)), (.t 28)]), none, .full⟩, ⟨none, (.store 2 (.t 4) (.t 29)), none, .full⟩])
 .ret))))⟩
theorem ok37 : ∃ fn hh, Try.prog.funcs[37]? = some fn ∧ (∀ vals w, (callFunc 37 vals).run Try.prog w = .ok (.enter 37 vals) w) ∧ comp Try.prog hh fn = some F37 :=
  ⟨_, hintOf [], Try.func37, Try.call37, by kernel_rfl⟩
def F38 : TFunc := ⟨2, 59, [(.cell 4 2 true), (.cell 5 2 true), (.tmp 6)],
 (.seq (.reg [⟨(some 2), (.box 2 (.t 0)), none, .full⟩, ⟨(some 3), (.box 2 (.t 1)), none, .full⟩, ⟨(some 4), (.alloc [(.bool false), .nils]), none, .full⟩, ⟨(some 5), (.alloc [(.bool false), .nils]), none, .full⟩, ⟨(some 6), (.mov (.c (.int .i64 0))), none, .full⟩])
 (.seq (.reg [⟨(some 11), (.load 2 true (.t 2)), none, (.box 2)⟩, ⟨(some 12), (.call 39 0 [] [(.t 11)]), none, (.rd [])⟩, ⟨(some 13), (.load 2 true (.t 3)), none, (.box 3)⟩, ⟨(some 14), (.call 39 0 [] [(.t 13)]), none, (.rd [])⟩, ⟨none, (.store 2 (.t 2) (.t 12)), none, (.box 2)⟩, ⟨none, (.store 2 (.t 3) (.t 14)), none, (.box 3)⟩])
 (.seq (.seq (.reg [⟨(some 15), (.faddr 1 (.t 3)), none, .full⟩, ⟨(some 16), (.load 1 false (.t 15)), none, .full⟩, ⟨(some 17), (.len false (.t 16)), none, .full⟩, ⟨(some 18), (.bin false .eql (.t 17) (.c (.int .i64 0))), none, .full⟩])
 (.cond (.t 18)
 (.seq (.reg [⟨(some 19), (.build [(.bool false), .nils] []), none, .full⟩, ⟨(some 20), (.build [(.bool false), .nils] []), none, .full⟩, ⟨none, (.store 2 (.t 4) (.t 19)), none, .full⟩, ⟨none, (.store 2 (.t 5) (.t 20)), none, .full⟩, ⟨(some 6), (.mov (.c (.int .i64 11))), none, .full⟩])
 .ret)
 .skip))
 (.seq (.reg [⟨(some 22), (.faddr 1 (.t 2)), none, .full⟩, ⟨(some 23), (.load 1 false (.t 22)), none, .full⟩, ⟨(some 24), (.faddr 1 (.t 3)), none, .full⟩, ⟨(some 25), (.load 1 false (.t 24)), none, .full⟩, ⟨(some 26), (.call 60 0 [] [(.t 23), (.t 25)]), none, .full⟩, ⟨(some 21), (.mov (.t 26)), none, .full⟩, ⟨(some 27), (.extract (.t 21) 0), none, .full⟩, ⟨(some 28), (.extract (.t 21) 1), none, .full⟩, ⟨(some 7), (.mov (.t 27)), none, .full⟩, ⟨(some 8), (.mov (.t 28)), none, .full⟩])
 (.seq (.reg [⟨(some 29), (.faddr 0 (.t 2)), none, .none⟩, ⟨(some 30), (.load 1 false (.t 29)), none, (.box 2)⟩, ⟨(some 31), (.faddr 0 (.t 3)), none, .none⟩, ⟨(some 32), (.load 1 false (.t 31)), none, (.box 3)⟩, ⟨(some 33), (.bin true .neq (.t 30) (.t 32)), none, .none⟩, ⟨(some 34), (.mov (.t 7)), none, .none⟩, ⟨(some 35), (.call 40 0 [] [(.t 33), (.t 34)]), none, (.rd [9, 10])⟩, ⟨(some 36), (.faddr 0 (.t 2)), none, .none⟩, ⟨(some 37), (.load 1 false (.t 36)), none, (.box 2)⟩, ⟨(some 38), (.mov (.t 8)), none, .none⟩, ⟨(some 39), (.call 40 0 [] [(.t 37), (.t 38)]), none, (.rd [9, 10])⟩, ⟨(some 9), (.alloc [(.bool false), .nils]), none, .none⟩, ⟨(some 10), (.alloc [(.bool false), .nils]), none, .none⟩, ⟨none, (.store 2 (.t 9) (.t 35)), none, (.box 9)⟩, ⟨none, (.store 2 (.t 10) (.t 39)), none, (.box 10)⟩])
 (.seq (.seq (.reg [⟨(some 40), (.faddr 1 (.t 10)), none, .full⟩, ⟨(some 41), (.load 1 false (.t 40)), none, .full⟩, ⟨(some 42), (.len false (.t 41)), none, .full⟩, ⟨(some 43), (.bin false .gtr (.t 42) (.c (.int .i64 0))), none, .full⟩, ⟨(some 44), (.mov (.t 43)), none, .full⟩, ⟨(some 45), (.faddr 0 (.t 2)), (some (44, true)), .full⟩, ⟨(some 46), (.load 1 false (.t 45)), (some (44, true)), .full⟩, ⟨(some 47), (.faddr 0 (.t 3)), (some (44, true)), .full⟩, ⟨(some 48), (.load 1 false (.t 47)), (some (44, true)), .full⟩, ⟨(some 49), (.bin true .neq (.t 46) (.t 48)), (some (44, true)), .full⟩, ⟨(some 50), (.pick (.t 44) (.t 49) (.c (.bool false))), none, .full⟩])
 (.cond (.t 50)
 (.reg [⟨(some 51), (.load 2 true (.t 9)), none, (.box 9)⟩, ⟨(some 52), (.call 18 0 [] [(.c (.int .i64 1))]), none, (.rd [])⟩, ⟨(some 53), (.call 61 0 [] [(.t 51), (.t 52)]), none, (.rd [])⟩, ⟨(some 54), (.load 2 true (.t 10)), none, (.box 10)⟩, ⟨(some 55), (.load 2 true (.t 3)), none, (.box 3)⟩, ⟨(some 56), (.call 50 0 [] [(.t 54), (.t 55)]), none, (.rd [])⟩, ⟨none, (.store 2 (.t 9) (.t 53)), none, (.box 9)⟩, ⟨none, (.store 2 (.t 10) (.t 56)), none, (.box 10)⟩])
 .skip))
 (.seq (.reg [⟨(some 57), (.load 2 true (.t 9)), none, (.box 9)⟩, ⟨(some 58), (.load 2 true (.t 10)), none, (.box 10)⟩, ⟨none, (.store 2 (.t 4) (.t 57)), none, (.box 4)⟩, ⟨none, (.store 2 (.t 5) (.t 58)), none, (.box 5)⟩, ⟨(some 6), (.mov (.c (.int .i64 0))), none, .none⟩])
 .ret)))))))⟩
theorem ok38 : ∃ fn hh, Try.prog.funcs[38]? = some fn ∧ (∀ vals w, (callFunc 38 vals).run Try.prog w = .ok (.enter 38 vals) w) ∧ comp Try.prog hh fn = some F38 :=
  ⟨_, hintOf [], Try.func38, Try.call38, by kernel_rfl⟩
def F39 : TFunc := ⟨1, 8, [(.cell 2 2 true)],
 (.seq (.reg [⟨(some 1), (.box 2 (.t 0)), none, .full⟩, ⟨(some 2), (.alloc [(.bool false), .nils]), none, .full⟩])
 (.seq (.reg [⟨(some 3), (.faddr 0 (.t 1)), none, .full⟩, ⟨(some 4), (.load 1 false (.t 3)), none, .full⟩, ⟨(some 5), (.faddr 1 (.t 1)), none, .full⟩, ⟨(some 6), (.load 1 false (.t 5)), none, .full⟩, ⟨(some 7), (.call 40 1 [] [(.t 4), (.t 6)]), none, .full⟩, ⟨none, (.store 2 (.t 2) (.t 7)), none, .full⟩])
 .ret))⟩
theorem ok39 : ∃ fn hh, Try.prog.funcs[39]? = some fn ∧ (∀ vals w, (callFunc 39 vals).run Try.prog w = .ok (.enter 39 vals) w) ∧ comp Try.prog hh fn = some F39 :=
  ⟨_, hintOf [(7, 1, [])], Try.func39, Try.call39, by kernel_rfl⟩
def F40 : TFunc := ⟨2, 15, [(.cell 4 2 true)],
 (.seq (.reg [⟨(some 4), (.alloc [(.bool false), .nils]), none, .full⟩])
 (.seq (.reg [⟨(some 5), (.mov (.t 1)), none, .full⟩, ⟨(some 6), (.call 59 0 [] [(.t 5)]), none, .full⟩, ⟨(some 1), (.mov (.t 6)), none, .full⟩])
 (.seq (.seq (.reg [⟨(some 7), (.mov (.t 1)), none, .full⟩, ⟨(some 8), (.len false (.t 7)), none, .full⟩, ⟨(some 9), (.bin false .eql (.t 8) (.c (.int .i64 0))), none, .full⟩])
 (.cond (.t 9)
 (.seq (.reg [⟨(some 10), (.build [(.bool false), .nils] []), none, .full⟩, ⟨none, (.store 2 (.t 4) (.t 10)), none, .full⟩])
 .ret)
 .skip))
 (.seq (.reg [⟨(some 11), (.mov (.t 0)), none, .full⟩, ⟨(some 12), (.mov (.t 1)), none, .full⟩, ⟨(some 13), (.app 1 false (.c .nils) (.t 12)), none, .full⟩, ⟨(some 14), (.build [(.bool false), .nils] [(0, (1, (.t 11))), (1, (1, (.t 13)))]), none, .full⟩, ⟨none, (.store 2 (.t 4) (.t 14)), none, .full⟩])
 .ret))))⟩
theorem ok40 : ∃ fn hh, Try.prog.funcs[40]? = some fn ∧ (∀ vals w, (callFunc 40 vals).run Try.prog w = .ok (.enter 40 vals) w) ∧ comp Try.prog hh fn = some F40 :=
  ⟨_, hintOf [], Try.func40, Try.call40, by kernel_rfl⟩
def L41_0 : TCode := (.seq (.reg [⟨(some 14), (.bin false .lss (.t 13) (.t 12)), none, .full⟩])
 (.seq (.cond (.t 14)
 .skip
 (.exit 0))
 (.seq (.block 1 (.seq (.reg [⟨(some 15), (.mov (.t 13)), none, .full⟩, ⟨(some 5), (.mov (.t 15)), none, .full⟩])
 (.seq (.reg [⟨(some 16), (.mov (.t 0)), none, .none⟩, ⟨(some 17), (.mov (.t 5)), none, .none⟩, ⟨(some 18), (.iaddr 1 (.t 16) (.t 17)), none, .none⟩, ⟨(some 19), (.load 1 false (.t 18)), none, (.rd [])⟩, ⟨(some 20), (.mov (.t 1)), none, .none⟩, ⟨(some 21), (.mov (.t 5)), none, .none⟩, ⟨(some 22), (.iaddr 1 (.t 20) (.t 21)), none, .none⟩, ⟨(some 23), (.load 1 false (.t 22)), none, (.rd [])⟩, ⟨(some 24), (.bin false .neq (.t 19) (.t 23)), none, .none⟩])
 (.cond (.t 24)
 (.seq (.reg [⟨(some 4), (.mov (.c (.bool false))), none, .full⟩])
 .ret)
 .skip))))
 (.reg [⟨(some 25), (.bin false .add (.t 13) (.c (.int .i64 1))), none, .full⟩, ⟨(some 13), (.mov (.t 25)), none, .full⟩]))))
def F41 : TFunc := ⟨2, 26, [(.tmp 4)],
 (.seq (.reg [⟨(some 4), (.mov (.c (.bool false))), none, .full⟩])
 (.seq (.seq (.reg [⟨(some 6), (.mov (.t 0)), none, .full⟩, ⟨(some 7), (.len false (.t 6)), none, .full⟩, ⟨(some 8), (.mov (.t 1)), none, .full⟩, ⟨(some 9), (.len false (.t 8)), none, .full⟩, ⟨(some 10), (.bin false .neq (.t 7) (.t 9)), none, .full⟩])
 (.cond (.t 10)
 (.seq (.reg [⟨(some 4), (.mov (.c (.bool false))), none, .full⟩])
 .ret)
 .skip))
 (.seq (.seq (.reg [⟨(some 11), (.mov (.t 0)), none, .full⟩, ⟨(some 12), (.len false (.t 11)), none, .full⟩, ⟨(some 13), (.mov (.c (.int .i64 0))), none, .full⟩])
 (.block 0 (.loop L41_0)))
 (.seq (.reg [⟨(some 4), (.mov (.c (.bool true))), none, .full⟩])
 .ret))))⟩
theorem ok41 : ∃ fn hh, Try.prog.funcs[41]? = some fn ∧ (∀ vals w, (callFunc 41 vals).run Try.prog w = .ok (.enter 41 vals) w) ∧ comp Try.prog hh fn = some F41 :=
  ⟨_, hintOf [], Try.func41, Try.call41, by kernel_rfl⟩
def F42 : TFunc := ⟨2, 13, [(.cell 4 4 true), (.tmp 5)],
 (.seq (.reg [⟨(some 2), (.box 2 (.t 0)), none, .full⟩, ⟨(some 3), (.box 2 (.t 1)), none, .full⟩, ⟨(some 4), (.alloc [(.bool false), .nils, (.bool false), .nils]), none, .full⟩, ⟨(some 5), (.mov (.c (.int .i64 0))), none, .full⟩])
 (.seq (.seq (.reg [⟨(some 6), (.load 2 true (.t 3)), none, .full⟩, ⟨(some 7), (.call 62 0 [] [(.t 6)]), none, .full⟩, ⟨(some 8), (.bin false .eql (.t 7) (.c (.int .i64 0))), none, .full⟩])
 (.cond (.t 8)
 (.seq (.reg [⟨(some 9), (.build [(.bool false), .nils, (.bool false), .nils] []), none, .full⟩, ⟨none, (.store 4 (.t 4) (.t 9)), none, .full⟩, ⟨(some 5), (.mov (.c (.int .i64 11))), none, .full⟩])
 .ret)
 .skip))
 (.seq (.reg [⟨(some 10), (.load 2 true (.t 2)), none, .full⟩, ⟨(some 11), (.load 2 true (.t 3)), none, .full⟩, ⟨(some 12), (.call 46 0 [] [(.t 10), (.t 11)]), none, .full⟩, ⟨none, (.store 4 (.t 4) (.t 12)), none, .full⟩, ⟨(some 5), (.mov (.c (.int .i64 0))), none, .full⟩])
 .ret)))⟩
theorem ok42 : ∃ fn hh, Try.prog.funcs[42]? = some fn ∧ (∀ vals w, (callFunc 42 vals).run Try.prog w = .ok (.enter 42 vals) w) ∧ comp Try.prog hh fn = some F42 :=
  ⟨_, hintOf [], Try.func42, Try.call42, by kernel_rfl⟩
def F43 : TFunc := ⟨1, 19, [(.cell 2 2 true)],
 (.seq (.reg [⟨(some 2), (.alloc [(.bool false), .nils]), none, .full⟩])
 (.seq (.reg [⟨(some 4), (.mov (.t 0)), none, .full⟩, ⟨(some 5), (.conv .u64 (.t 4)), none, .full⟩, ⟨(some 3), (.mov (.t 5)), none, .full⟩])
 (.seq (.seq (.reg [⟨(some 6), (.mov (.t 0)), none, .full⟩, ⟨(some 7), (.bin false .lss (.t 6) (.c (.int .i64 0))), none, .full⟩])
 (.cond (.t 7)
 (.reg [⟨(some 8), (.mov (.t 3)), none, .full⟩, ⟨(some 9), (.un .neg (.t 8)), none, .full⟩, ⟨(some 3), (.mov (.t 9)), none, .full⟩])
 .skip))
 (.seq (.reg [⟨(some 10), (.mov (.t 0)), none, .full⟩, ⟨(some 11), (.bin false .lss (.t 10) (.c (.int .i64 0))), none, .full⟩, ⟨(some 12), (.mov (.t 3)), none, .full⟩, ⟨(some 13), (.conv .u32 (.t 12)), none, .full⟩, ⟨(some 14), (.mov (.t 3)), none, .full⟩, ⟨(some 15), (.bin false .shr (.t 14) (.c (.int .u64 32))), none, .full⟩, ⟨(some 16), (.conv .u32 (.t 15)), none, .full⟩, ⟨(some 17), (.bslice 1 [(.int .u32 0)] 2 [(0, (.t 13)), (1, (.t 16))]), none, .full⟩, ⟨(some 18), (.call 63 0 [] [(.t 11), (.t 17)]), none, .full⟩, ⟨none, (.store 2 (.t 2) (.t 18)), none, .full⟩])
 .ret))))⟩
theorem ok43 : ∃ fn hh, Try.prog.funcs[43]? = some fn ∧ (∀ vals w, (callFunc 43 vals).run Try.prog w = .ok (.enter 43 vals) w) ∧ comp Try.prog hh fn = some F43 :=
  ⟨_, hintOf [], Try.func43, Try.call43, by kernel_rfl⟩
def F44 : TFunc := ⟨1, 11, [(.cell 2 4 true)],
 (.seq (.reg [⟨(some 2), (.alloc [(.bool false), .nils, (.bool false), .nils]), none, .full⟩])
 (.seq (.reg [⟨(some 6), (.mov (.t 0)), none, .full⟩, ⟨(some 7), (.call 20 0 [] [(.t 6), (.c (.int .i64 1))]), none, .full⟩, ⟨(some 5), (.mov (.t 7)), none, .full⟩, ⟨(some 8), (.extract (.t 5) 0), none, .full⟩, ⟨(some 9), (.extract (.t 5) 1), none, .full⟩, ⟨(some 3), (.alloc [(.bool false), .nils, (.bool false), .nils]), none, .full⟩, ⟨none, (.store 4 (.t 3) (.t 8)), none, .full⟩, ⟨(some 4), (.mov (.t 9)), none, .full⟩])
 (.seq (.reg [⟨(some 10), (.load 4 true (.t 3)), none, .full⟩, ⟨none, (.store 4 (.t 2) (.t 10)), none, .full⟩])
 .ret)))⟩
theorem ok44 : ∃ fn hh, Try.prog.funcs[44]? = some fn ∧ (∀ vals w, (callFunc 44 vals).run Try.prog w = .ok (.enter 44 vals) w) ∧ comp Try.prog hh fn = some F44 :=
  ⟨_, hintOf [], Try.func44, Try.call44, by kernel_rfl⟩
def F45 : TFunc := ⟨1, 24, [(.cell 2 2 true), (.cell 3 2 true)],
 (.seq (.reg [⟨(some 1), (.box 4 (.t 0)), none, .full⟩, ⟨(some 2), (.alloc [(.bool false), .nils]), none, .full⟩, ⟨(some 3), (.alloc [(.bool false), .nils]), none, .full⟩])
 (.seq (.seq (.reg [⟨(some 4), (.faddr 2 (.t 1)), none, .full⟩, ⟨(some 5), (.load 2 true (.t 4)), none, .full⟩, ⟨(some 6), (.call 62 0 [] [(.t 5)]), none, .full⟩, ⟨(some 7), (.bin false .eql (.t 6) (.c (.int .i64 0))), none, .full⟩])
 (.cond (.t 7)
 (.seq (.reg [⟨(some 8), (.build [(.bool false), .nils] []), none, .full⟩, ⟨(some 9), (.call 64 0 [] []), none, .full⟩, ⟨none, (.store 2 (.t 2) (.t 8)), none, .full⟩, ⟨none, (.store 2 (.t 3) (.t 9)), none, .full⟩])
 .ret)
 .skip))
 (.seq (.seq (.reg [⟨(some 10), (.faddr 2 (.t 1)), none, .full⟩, ⟨(some 11), (.load 2 true (.t 10)), none, .full⟩, ⟨(some 12), (.call 62 0 [] [(.t 11)]), none, .full⟩, ⟨(some 13), (.bin false .lss (.t 12) (.c (.int .i64 0))), none, .full⟩])
 (.cond (.t 13)
 (.seq (.reg [⟨(some 14), (.faddr 0 (.t 1)), none, .none⟩, ⟨(some 15), (.load 2 true (.t 14)), none, (.box 1)⟩, ⟨(some 16), (.call 65 0 [] [(.t 15)]), none, (.rd [])⟩, ⟨(some 17), (.faddr 2 (.t 1)), none, .none⟩, ⟨(some 18), (.load 2 true (.t 17)), none, (.box 1)⟩, ⟨(some 19), (.call 65 0 [] [(.t 18)]), none, (.rd [])⟩, ⟨none, (.store 2 (.t 2) (.t 16)), none, (.box 2)⟩, ⟨none, (.store 2 (.t 3) (.t 19)), none, (.box 3)⟩])
 .ret)
 .skip))
 (.seq (.reg [⟨(some 20), (.faddr 0 (.t 1)), none, .none⟩, ⟨(some 21), (.load 2 true (.t 20)), none, (.box 1)⟩, ⟨(some 22), (.faddr 2 (.t 1)), none, .none⟩, ⟨(some 23), (.load 2 true (.t 22)), none, (.box 1)⟩, ⟨none, (.store 2 (.t 2) (.t 21)), none, (.box 2)⟩, ⟨none, (.store 2 (.t 3) (.t 23)), none, (.box 3)⟩])
 .ret))))⟩
theorem ok45 : ∃ fn hh, Try.prog.funcs[45]? = some fn ∧ (∀ vals w, (callFunc 45 vals).run Try.prog w = .ok (.enter 45 vals) w) ∧ comp Try.prog hh fn = some F45 :=
  ⟨_, hintOf [], Try.func45, Try.call45, by kernel_rfl⟩
end Go.TM.Fn
end
section
namespace Go.TM.Fn
open Go.Proofs
def F46 : TFunc := ⟨2, 47, [(.cell 4 4 true)],
 (.seq (.reg [⟨(some 2), (.box 2 (.t 0)), none, .full⟩, ⟨(some 3), (.box 2 (.t 1)), none, .full⟩, ⟨(some 4), (.alloc [(.bool false), .nils, (.bool false), .nils]), none, .full⟩])
 (.seq (.seq (.reg [⟨(some 12), (.load 2 true (.t 2)), none, .full⟩, ⟨(some 13), (.call 62 0 [] [(.t 12)]), none, .full⟩, ⟨(some 14), (.bin false .eql (.t 13) (.c (.int .i64 0))), none, .full⟩, ⟨(some 15), (.mov (.t 14)), none, .full⟩, ⟨(some 16), (.load 2 true (.t 3)), (some (15, false)), .full⟩, ⟨(some 17), (.call 62 0 [] [(.t 16)]), (some (15, false)), .full⟩, ⟨(some 18), (.bin false .eql (.t 17) (.c (.int .i64 0))), (some (15, false)), .full⟩, ⟨(some 19), (.pick (.t 15) (.c (.bool true)) (.t 18)), none, .full⟩])
 (.cond (.t 19)
 (.seq (.reg [⟨(some 20), (.call 64 0 [] []), none, .full⟩, ⟨(some 21), (.build [(.bool false), .nils, (.bool false), .nils] [(2, (2, (.t 20)))]), none, .full⟩, ⟨none, (.store 4 (.t 4) (.t 21)), none, .full⟩])
 .ret)
 .skip))
 (.seq (.reg [⟨(some 22), (.load 2 true (.t 2)), none, .full⟩, ⟨(some 23), (.load 2 true (.t 3)), none, .full⟩, ⟨(some 24), (.call 66 0 [] [(.t 22), (.t 23)]), none, .full⟩, ⟨(some 5), (.alloc [(.bool false), .nils]), none, .full⟩, ⟨none, (.store 2 (.t 5) (.t 24)), none, .full⟩])
 (.seq (.seq (.reg [⟨(some 25), (.load 2 true (.t 3)), none, .full⟩, ⟨(some 26), (.call 62 0 [] [(.t 25)]), none, .full⟩, ⟨(some 27), (.bin false .lss (.t 26) (.c (.int .i64 0))), none, .full⟩])
 (.cond (.t 27)
 (.reg [⟨(some 28), (.load 2 true (.t 5)), none, .full⟩, ⟨(some 29), (.call 65 0 [] [(.t 28)]), none, .full⟩, ⟨none, (.store 2 (.t 5) (.t 29)), none, .full⟩])
 .skip))
 (.seq (.reg [⟨(some 31), (.load 2 true (.t 2)), none, .full⟩, ⟨(some 32), (.load 2 true (.t 5)), none, .full⟩, ⟨(some 33), (.call 67 0 [] [(.t 31), (.t 32)]), none, .full⟩, ⟨(some 30), (.mov (.t 33)), none, .full⟩, ⟨(some 34), (.extract (.t 30) 0), none, .full⟩, ⟨(some 35), (.extract (.t 30) 1), none, .full⟩, ⟨(some 36), (.extract (.t 30) 2), none, .full⟩, ⟨(some 6), (.alloc [(.bool false), .nils]), none, .full⟩, ⟨(some 7), (.alloc [(.bool false), .nils]), none, .full⟩, ⟨none, (.store 2 (.t 6) (.t 34)), none, .full⟩, ⟨none, (.store 2 (.t 7) (.t 35)), none, .full⟩, ⟨(some 8), (.mov (.t 36)), none, .full⟩])
 (.seq (.reg [⟨(some 38), (.load 2 true (.t 3)), none, .full⟩, ⟨(some 39), (.load 2 true (.t 5)), none, .full⟩, ⟨(some 40), (.call 67 0 [] [(.t 38), (.t 39)]), none, .full⟩, ⟨(some 37), (.mov (.t 40)), none, .full⟩, ⟨(some 41), (.extract (.t 37) 0), none, .full⟩, ⟨(some 42), (.extract (.t 37) 1), none, .full⟩, ⟨(some 43), (.extract (.t 37) 2), none, .full⟩, ⟨(some 9), (.alloc [(.bool false), .nils]), none, .full⟩, ⟨(some 10), (.alloc [(.bool false), .nils]), none, .full⟩, ⟨none, (.store 2 (.t 9) (.t 41)), none, .full⟩, ⟨none, (.store 2 (.t 10) (.t 42)), none, .full⟩, ⟨(some 11), (.mov (.t 43)), none, .full⟩])
 (.seq (.reg [⟨(some 44), (.load 2 true (.t 6)), none, .full⟩, ⟨(some 45), (.load 2 true (.t 9)), none, .full⟩, ⟨(some 46), (.build [(.bool false), .nils, (.bool false), .nils] [(0, (2, (.t 44))), (2, (2, (.t 45)))]), none, .full⟩, ⟨none, (.store 4 (.t 4) (.t 46)), none, .full⟩])
 .ret)))))))⟩
theorem ok46 : ∃ fn hh, Try.prog.funcs[46]? = some fn ∧ (∀ vals w, (callFunc 46 vals).run Try.prog w = .ok (.enter 46 vals) w) ∧ comp Try.prog hh fn = some F46 :=
  ⟨_, hintOf [], Try.func46, Try.call46, by kernel_rfl⟩
def F47 : TFunc := ⟨2, 10, [(.cell 4 2 true)],
 (.seq (.reg [⟨(some 2), (.box 2 (.t 0)), none, .full⟩, ⟨(some 3), (.box 2 (.t 1)), none, .full⟩, ⟨(some 4), (.alloc [(.bool false), .nils]), none, .full⟩])
 (.seq (.reg [⟨(some 5), (.load 2 true (.t 2)), none, .full⟩, ⟨(some 6), (.load 2 true (.t 3)), none, .full⟩, ⟨(some 7), (.faddr 0 (.t 3)), none, .full⟩, ⟨(some 8), (.load 1 false (.t 7)), none, .full⟩, ⟨(some 9), (.call 68 0 [] [(.t 5), (.t 6), (.t 8)]), none, .full⟩, ⟨none, (.store 2 (.t 4) (.t 9)), none, .full⟩])
 .ret))⟩
theorem ok47 : ∃ fn hh, Try.prog.funcs[47]? = some fn ∧ (∀ vals w, (callFunc 47 vals).run Try.prog w = .ok (.enter 47 vals) w) ∧ comp Try.prog hh fn = some F47 :=
  ⟨_, hintOf [], Try.func47, Try.call47, by kernel_rfl⟩
def F48 : TFunc := ⟨2, 16, [(.cell 4 2 true)],
 (.seq (.reg [⟨(some 2), (.box 2 (.t 0)), none, .full⟩, ⟨(some 3), (.box 2 (.t 1)), none, .full⟩, ⟨(some 4), (.alloc [(.bool false), .nils]), none, .full⟩])
 (.seq (.reg [⟨(some 5), (.faddr 0 (.t 2)), none, .none⟩, ⟨(some 6), (.load 1 false (.t 5)), none, (.box 2)⟩, ⟨(some 7), (.faddr 0 (.t 3)), none, .none⟩, ⟨(some 8), (.load 1 false (.t 7)), none, (.box 3)⟩, ⟨(some 9), (.bin true .neq (.t 6) (.t 8)), none, .none⟩, ⟨(some 10), (.load 2 true (.t 2)), none, (.box 2)⟩, ⟨(some 11), (.call 70 0 [] [(.t 10)]), none, (.rd [])⟩, ⟨(some 12), (.load 2 true (.t 3)), none, (.box 3)⟩, ⟨(some 13), (.call 70 0 [] [(.t 12)]), none, (.rd [])⟩, ⟨(some 14), (.call 69 0 [] [(.t 11), (.t 13)]), none, (.rd [])⟩, ⟨(some 15), (.call 63 0 [] [(.t 9), (.t 14)]), none, (.rd [])⟩, ⟨none, (.store 2 (.t 4) (.t 15)), none, (.box 4)⟩])
 .ret))⟩
theorem ok48 : ∃ fn hh, Try.prog.funcs[48]? = some fn ∧ (∀ vals w, (callFunc 48 vals).run Try.prog w = .ok (.enter 48 vals) w) ∧ comp Try.prog hh fn = some F48 :=
  ⟨_, hintOf [], Try.func48, Try.call48, by kernel_rfl⟩
def L49_0 : TCode := (.seq (.seq (.reg [⟨(some 11), (.mov (.t 5)), none, .full⟩, ⟨(some 12), (.mov (.t 0)), none, .full⟩, ⟨(some 13), (.len false (.t 12)), none, .full⟩, ⟨(some 14), (.bin false .lss (.t 11) (.t 13)), none, .full⟩])
 (.cond (.t 14)
 .skip
 (.exit 0)))
 (.seq (.block 1 (.seq (.reg [⟨(some 17), (.mov (.t 0)), none, .none⟩, ⟨(some 18), (.mov (.t 5)), none, .none⟩, ⟨(some 19), (.iaddr 1 (.t 17) (.t 18)), none, .none⟩, ⟨(some 20), (.load 1 false (.t 19)), none, (.rd [])⟩, ⟨(some 21), (.mov (.t 1)), none, .none⟩, ⟨(some 22), (.mov (.t 5)), none, .none⟩, ⟨(some 23), (.iaddr 1 (.t 21) (.t 22)), none, .none⟩, ⟨(some 24), (.load 1 false (.t 23)), none, (.rd [])⟩, ⟨(some 25), (.bin false .neq (.t 20) (.t 24)), none, .none⟩])
 (.cond (.t 25)
 (.seq (.reg [⟨(some 4), (.mov (.c (.bool false))), none, .full⟩])
 .ret)
 .skip)))
 (.reg [⟨(some 15), (.mov (.t 5)), none, .full⟩, ⟨(some 16), (.bin false .add (.t 15) (.c (.int .i64 1))), none, .full⟩, ⟨(some 5), (.mov (.t 16)), none, .full⟩])))
def F49 : TFunc := ⟨2, 26, [(.tmp 4)],
 (.seq (.reg [⟨(some 4), (.mov (.c (.bool false))), none, .full⟩])
 (.seq (.seq (.reg [⟨(some 6), (.mov (.t 0)), none, .full⟩, ⟨(some 7), (.len false (.t 6)), none, .full⟩, ⟨(some 8), (.mov (.t 1)), none, .full⟩, ⟨(some 9), (.len false (.t 8)), none, .full⟩, ⟨(some 10), (.bin false .neq (.t 7) (.t 9)), none, .full⟩])
 (.cond (.t 10)
 (.seq (.reg [⟨(some 4), (.mov (.c (.bool false))), none, .full⟩])
 .ret)
 .skip))
 (.seq (.seq (.reg [⟨(some 5), (.mov (.c (.int .i64 0))), none, .full⟩])
 (.block 0 (.loop L49_0)))
 (.seq (.reg [⟨(some 4), (.mov (.c (.bool true))), none, .full⟩])
 .ret))))⟩
theorem ok49 : ∃ fn hh, Try.prog.funcs[49]? = some fn ∧ (∀ vals w, (callFunc 49 vals).run Try.prog w = .ok (.enter 49 vals) w) ∧ comp Try.prog hh fn = some F49 :=
  ⟨_, hintOf [], Try.func49, Try.call49, by kernel_rfl⟩
def F50 : TFunc := ⟨2, 42, [(.cell 4 2 true)],
 (.seq (.reg [⟨(some 2), (.box 2 (.t 0)), none, .full⟩, ⟨(some 3), (.box 2 (.t 1)), none, .full⟩, ⟨(some 4), (.alloc [(.bool false), .nils]), none, .full⟩])
 (.seq (.seq (.reg [⟨(some 5), (.faddr 0 (.t 2)), none, .full⟩, ⟨(some 6), (.load 1 false (.t 5)), none, .full⟩, ⟨(some 7), (.faddr 0 (.t 3)), none, .full⟩, ⟨(some 8), (.load 1 false (.t 7)), none, .full⟩, ⟨(some 9), (.bin true .eql (.t 6) (.t 8)), none, .full⟩])
 (.cond (.t 9)
 (.seq (.reg [⟨(some 10), (.faddr 0 (.t 2)), none, .none⟩, ⟨(some 11), (.load 1 false (.t 10)), none, (.box 2)⟩, ⟨(some 12), (.faddr 1 (.t 2)), none, .none⟩, ⟨(some 13), (.load 1 false (.t 12)), none, (.box 2)⟩, ⟨(some 14), (.faddr 1 (.t 3)), none, .none⟩, ⟨(some 15), (.load 1 false (.t 14)), none, (.box 3)⟩, ⟨(some 16), (.call 71 0 [] [(.t 13), (.t 15)]), none, (.rd [])⟩, ⟨(some 17), (.call 40 0 [] [(.t 11), (.t 16)]), none, (.rd [])⟩, ⟨none, (.store 2 (.t 4) (.t 17)), none, (.box 4)⟩])
 .ret)
 .skip))
 (.seq (.seq (.reg [⟨(some 18), (.faddr 1 (.t 2)), none, .full⟩, ⟨(some 19), (.load 1 false (.t 18)), none, .full⟩, ⟨(some 20), (.faddr 1 (.t 3)), none, .full⟩, ⟨(some 21), (.load 1 false (.t 20)), none, .full⟩, ⟨(some 22), (.call 72 0 [] [(.t 19), (.t 21)]), none, .full⟩, ⟨(some 23), (.bin false .geq (.t 22) (.c (.int .i64 0))), none, .full⟩])
 (.cond (.t 23)
 (.seq (.reg [⟨(some 24), (.faddr 0 (.t 2)), none, .none⟩, ⟨(some 25), (.load 1 false (.t 24)), none, (.box 2)⟩, ⟨(some 26), (.faddr 1 (.t 2)), none, .none⟩, ⟨(some 27), (.load 1 false (.t 26)), none, (.box 2)⟩, ⟨(some 28), (.faddr 1 (.t 3)), none, .none⟩, ⟨(some 29), (.load 1 false (.t 28)), none, (.box 3)⟩, ⟨(some 30), (.call 59 0 [] [(.t 29)]), none, (.rd [])⟩, ⟨(some 31), (.call 73 0 [] [(.t 27), (.t 30)]), none, (.rd [])⟩, ⟨(some 32), (.call 40 0 [] [(.t 25), (.t 31)]), none, (.rd [])⟩, ⟨none, (.store 2 (.t 4) (.t 32)), none, (.box 4)⟩])
 .ret)
 .skip))
 (.seq (.reg [⟨(some 33), (.faddr 0 (.t 3)), none, .none⟩, ⟨(some 34), (.load 1 false (.t 33)), none, (.box 3)⟩, ⟨(some 35), (.faddr 1 (.t 3)), none, .none⟩, ⟨(some 36), (.load 1 false (.t 35)), none, (.box 3)⟩, ⟨(some 37), (.faddr 1 (.t 2)), none, .none⟩, ⟨(some 38), (.load 1 false (.t 37)), none, (.box 2)⟩, ⟨(some 39), (.call 59 0 [] [(.t 38)]), none, (.rd [])⟩, ⟨(some 40), (.call 73 0 [] [(.t 36), (.t 39)]), none, (.rd [])⟩, ⟨(some 41), (.call 40 0 [] [(.t 34), (.t 40)]), none, (.rd [])⟩, ⟨none, (.store 2 (.t 4) (.t 41)), none, (.box 4)⟩])
 .ret))))⟩
theorem ok50 : ∃ fn hh, Try.prog.funcs[50]? = some fn ∧ (∀ vals w, (callFunc 50 vals).run Try.prog w = .ok (.enter 50 vals) w) ∧ comp Try.prog hh fn = some F50 :=
  ⟨_, hintOf [], Try.func50, Try.call50, by kernel_rfl⟩
def L51_0 : TCode := (.seq (.reg [⟨(some 59), (.bin false .lss (.t 58) (.t 57)), none, .full⟩])
 (.seq (.cond (.t 59)
 .skip
 (.exit 0))
 (.seq (.block 1 (.seq (.reg [⟨(some 60), (.mov (.t 58)), none, .full⟩, ⟨(some 61), (.iaddr 1 (.t 56) (.t 58)), none, .full⟩, ⟨(some 62), (.load 1 false (.t 61)), none, .full⟩, ⟨(some 3), (.mov (.t 60)), none, .full⟩, ⟨(some 4), (.mov (.t 62)), none, .full⟩])
 (.seq (.reg [⟨(some 63), (.mov (.t 4)), none, .full⟩, ⟨(some 64), (.bin false .lss (.t 63) (.c (.int .i64 0))), none, .full⟩, ⟨(some 65), (.mov (.t 64)), none, .full⟩, ⟨(some 66), (.mov (.t 4)), (some (65, false)), .full⟩, ⟨(some 67), (.faddr 0 (.t 1)), (some (65, false)), .full⟩, ⟨(some 68), (.load 1 false (.t 67)), (some (65, false)), .full⟩, ⟨(some 69), (.bin false .geq (.t 66) (.t 68)), (some (65, false)), .full⟩, ⟨(some 70), (.pick (.t 65) (.c (.bool true)) (.t 69)), none, .full⟩, ⟨(some 71), (.mov (.t 70)), none, .full⟩, ⟨(some 72), (.mov (.t 3)), (some (71, false)), .full⟩, ⟨(some 73), (.bin false .gtr (.t 72) (.c (.int .i64 0))), (some (71, false)), .full⟩, ⟨(some 74), (.mov (.t 73)), (some (71, false)), .full⟩, ⟨(some 75), (.mov (.t 4)), (some (74, true)), .full⟩, ⟨(some 76), (.faddr 1 (.t 1)), (some (74, true)), .full⟩, ⟨(some 77), (.load 1 false (.t 76)), (some (74, true)), .full⟩, ⟨(some 78), (.mov (.t 3)), (some (74, true)), .full⟩, ⟨(some 79), (.bin false .sub (.t 78) (.c (.int .i64 1))), (some (74, true)), .full⟩, ⟨(some 80), (.iaddr 1 (.t 77) (.t 79)), (some (74, true)), .full⟩, ⟨(some 81), (.load 1 false (.t 80)), (some (74, true)), .full⟩, ⟨(some 82), (.bin false .leq (.t 75) (.t 81)), (some (74, true)), .full⟩, ⟨(some 83), (.pick (.t 74) (.t 82) (.c (.bool false))), (some (71, false)), .full⟩, ⟨(some 84), (.pick (.t 71) (.c (.bool true)) (.t 83)), none, .full⟩])
 (.cond (.t 84)
 (.seq (.reg [⟨(some 2), (.mov (.c (.int .i64 8))), none, .full⟩])
 .ret)
 .skip))))
 (.reg [⟨(some 85), (.bin false .add (.t 58) (.c (.int .i64 1))), none, .full⟩, ⟨(some 58), (.mov (.t 85)), none, .full⟩]))))
def L51_2 : TCode := (.seq (.reg [⟨(some 119), (.bin false .lss (.t 118) (.t 117)), none, .full⟩])
 (.seq (.cond (.t 119)
 .skip
 (.exit 4))
 (.seq (.block 5 (.seq (.reg [⟨(some 120), (.iaddr 1 (.t 116) (.t 118)), none, .full⟩, ⟨(some 121), (.load 1 false (.t 120)), none, .full⟩, ⟨(some 11), (.mov (.t 121)), none, .full⟩])
 (.seq (.reg [⟨(some 122), (.load 1 true (.t 5)), none, .full⟩, ⟨(some 123), (.mov (.t 11)), none, .full⟩, ⟨(some 124), (.call 76 0 [] [(.t 122), (.t 123)]), none, .full⟩, ⟨(some 12), (.mov (.t 124)), none, .full⟩])
 (.seq (.seq (.reg [⟨(some 125), (.mov (.t 12)), none, .full⟩, ⟨(some 126), (.bin false .lss (.t 125) (.c (.int .i64 0))), none, .full⟩, ⟨(some 127), (.mov (.t 126)), none, .full⟩, ⟨(some 128), (.mov (.t 9)), (some (127, false)), .full⟩, ⟨(some 129), (.mov (.t 12)), (some (127, false)), .full⟩, ⟨(some 130), (.iaddr 1 (.t 128) (.t 129)), (some (127, false)), .full⟩, ⟨(some 131), (.load 1 false (.t 130)), (some (127, false)), .full⟩, ⟨(some 132), (.pick (.t 127) (.c (.bool true)) (.t 131)), none, .full⟩])
 (.cond (.t 132)
 (.seq (.reg [⟨(some 2), (.mov (.c (.int .i64 12))), none, .full⟩])
 .ret)
 .skip))
 (.reg [⟨(some 133), (.mov (.t 9)), none, .full⟩, ⟨(some 134), (.mov (.t 12)), none, .full⟩, ⟨(some 135), (.iaddr 1 (.t 133) (.t 134)), none, .full⟩, ⟨none, (.store 1 (.t 135) (.c (.bool true))), none, .full⟩])))))
 (.reg [⟨(some 136), (.bin false .add (.t 118) (.c (.int .i64 1))), none, .full⟩, ⟨(some 118), (.mov (.t 136)), none, .full⟩]))))
def L51_1 : TCode := (.seq (.reg [⟨(some 95), (.bin false .lss (.t 94) (.t 93)), none, .full⟩])
 (.seq (.cond (.t 95)
 .skip
 (.exit 2))
 (.seq (.block 3 (.seq (.reg [⟨(some 96), (.iaddr 3 (.t 92) (.t 94)), none, .full⟩, ⟨(some 97), (.load 3 true (.t 96)), none, .full⟩, ⟨(some 7), (.alloc [(.str ⟨#[]⟩), .nils, (.int .i64 0)]), none, .full⟩, ⟨none, (.store 3 (.t 7) (.t 97)), none, .full⟩])
 (.seq (.seq (.reg [⟨(some 98), (.faddr 2 (.t 7)), none, .full⟩, ⟨(some 99), (.load 1 false (.t 98)), none, .full⟩, ⟨(some 100), (.bin false .lss (.t 99) (.c (.int .i64 (-1125899906842624)))), none, .full⟩, ⟨(some 101), (.mov (.t 100)), none, .full⟩, ⟨(some 102), (.faddr 2 (.t 7)), (some (101, false)), .full⟩, ⟨(some 103), (.load 1 false (.t 102)), (some (101, false)), .full⟩, ⟨(some 104), (.bin false .gtr (.t 103) (.c (.int .i64 1125899906842624))), (some (101, false)), .full⟩, ⟨(some 105), (.pick (.t 101) (.c (.bool true)) (.t 104)), none, .full⟩])
 (.cond (.t 105)
 (.seq (.reg [⟨(some 2), (.mov (.c (.int .i64 5))), none, .full⟩])
 .ret)
 .skip))
 (.seq (.reg [⟨(some 106), (.faddr 0 (.t 7)), none, .full⟩, ⟨(some 107), (.load 2 true (.t 106)), none, .full⟩, ⟨(some 108), (.call 75 0 [] [(.t 107)]), none, .full⟩, ⟨(some 8), (.mov (.t 108)), none, .full⟩])
 (.seq (.seq (.reg [⟨(some 109), (.mov (.t 8)), none, .full⟩, ⟨(some 110), (.len false (.t 109)), none, .full⟩, ⟨(some 111), (.bin false .eql (.t 110) (.c (.int .i64 0))), none, .full⟩])
 (.cond (.t 111)
 (.seq (.reg [⟨(some 2), (.mov (.c (.int .i64 12))), none, .full⟩])
 .ret)
 .skip))
 (.seq (.reg [⟨(some 112), (.faddr 1 (.t 1)), none, .full⟩, ⟨(some 113), (.load 1 false (.t 112)), none, .full⟩, ⟨(some 114), (.len false (.t 113)), none, .full⟩, ⟨(some 115), (.mk 1 [(.bool false)] (.t 114)), none, .full⟩, ⟨(some 9), (.mov (.t 115)), none, .full⟩])
 (.seq (.reg [⟨(some 116), (.mov (.t 8)), none, .full⟩, ⟨(some 117), (.len false (.t 116)), none, .full⟩, ⟨(some 118), (.mov (.c (.int .i64 0))), none, .full⟩])
 (.block 4 (.loop L51_2)))))))))
 (.reg [⟨(some 137), (.bin false .add (.t 94) (.c (.int .i64 1))), none, .full⟩, ⟨(some 94), (.mov (.t 137)), none, .full⟩]))))
def L51_3 : TCode := (.seq (.reg [⟨(some 142), (.bin false .lss (.t 141) (.t 140)), none, .full⟩])
 (.seq (.cond (.t 142)
 .skip
 (.exit 6))
 (.seq (.block 7 (.seq (.reg [⟨(some 143), (.iaddr 2 (.t 139) (.t 141)), none, .full⟩, ⟨(some 144), (.load 2 true (.t 143)), none, .full⟩, ⟨(some 14), (.alloc [.nils, (.int .i64 0)]), none, .full⟩, ⟨none, (.store 2 (.t 14) (.t 144)), none, .full⟩])
 (.seq (.reg [⟨(some 145), (.load 1 true (.t 5)), none, .full⟩, ⟨(some 146), (.load 2 true (.t 14)), none, .full⟩, ⟨(some 147), (.call 77 0 [] [(.t 145), (.t 146)]), none, .full⟩, ⟨(some 148), (.un .not (.t 147)), none, .full⟩])
 (.cond (.t 148)
 (.seq (.reg [⟨(some 2), (.mov (.c (.int .i64 5))), none, .full⟩])
 .ret)
 .skip))))
 (.reg [⟨(some 149), (.bin false .add (.t 141) (.c (.int .i64 1))), none, .full⟩, ⟨(some 141), (.mov (.t 149)), none, .full⟩]))))
def F51 : TFunc := ⟨1, 150, [(.tmp 2)],
 (.seq (.reg [⟨(some 1), (.box 5 (.t 0)), none, .full⟩, ⟨(some 2), (.mov (.c (.int .i64 0))), none, .full⟩])
 (.seq (.seq (.reg [⟨(some 15), (.faddr 0 (.t 1)), none, .full⟩, ⟨(some 16), (.load 1 false (.t 15)), none, .full⟩, ⟨(some 17), (.bin false .lss (.t 16) (.c (.int .i64 0))), none, .full⟩, ⟨(some 18), (.mov (.t 17)), none, .full⟩, ⟨(some 19), (.faddr 0 (.t 1)), (some (18, false)), .full⟩, ⟨(some 20), (.load 1 false (.t 19)), (some (18, false)), .full⟩, ⟨(some 21), (.bin false .gtr (.t 20) (.c (.int .i64 200))), (some (18, false)), .full⟩, ⟨(some 22), (.pick (.t 18) (.c (.bool true)) (.t 21)), none, .full⟩, ⟨(some 23), (.mov (.t 22)), none, .full⟩, ⟨(some 24), (.faddr 2 (.t 1)), (some (23, false)), .full⟩, ⟨(some 25), (.load 1 false (.t 24)), (some (23, false)), .full⟩, ⟨(some 26), (.bin false .lss (.t 25) (.c (.int .i64 0))), (some (23, false)), .full⟩, ⟨(some 27), (.pick (.t 23) (.c (.bool true)) (.t 26)), none, .full⟩, ⟨(some 28), (.mov (.t 27)), none, .full⟩, ⟨(some 29), (.faddr 2 (.t 1)), (some (28, false)), .full⟩, ⟨(some 30), (.load 1 false (.t 29)), (some (28, false)), .full⟩, ⟨(some 31), (.bin false .gtr (.t 30) (.c (.int .i64 4294967296))), (some (28, false)), .full⟩, ⟨(some 32), (.pick (.t 28) (.c (.bool true)) (.t 31)), none, .full⟩])
 (.cond (.t 32)
 (.seq (.reg [⟨(some 2), (.mov (.c (.int .i64 5))), none, .full⟩])
 .ret)
 .skip))
 (.seq (.seq (.reg [⟨(some 33), (.faddr 1 (.t 1)), none, .full⟩, ⟨(some 34), (.load 1 false (.t 33)), none, .full⟩, ⟨(some 35), (.len false (.t 34)), none, .full⟩, ⟨(some 36), (.bin false .eql (.t 35) (.c (.int .i64 0))), none, .full⟩, ⟨(some 37), (.mov (.t 36)), none, .full⟩, ⟨(some 38), (.faddr 1 (.t 1)), (some (37, false)), .full⟩, ⟨(some 39), (.load 1 false (.t 38)), (some (37, false)), .full⟩, ⟨(some 40), (.len false (.t 39)), (some (37, false)), .full⟩, ⟨(some 41), (.bin false .gtr (.t 40) (.c (.int .i64 32))), (some (37, false)), .full⟩, ⟨(some 42), (.pick (.t 37) (.c (.bool true)) (.t 41)), none, .full⟩, ⟨(some 43), (.mov (.t 42)), none, .full⟩, ⟨(some 44), (.faddr 3 (.t 1)), (some (43, false)), .full⟩, ⟨(some 45), (.load 1 false (.t 44)), (some (43, false)), .full⟩, ⟨(some 46), (.len false (.t 45)), (some (43, false)), .full⟩, ⟨(some 47), (.bin false .gtr (.t 46) (.c (.int .i64 1000))), (some (43, false)), .full⟩, ⟨(some 48), (.pick (.t 43) (.c (.bool true)) (.t 47)), none, .full⟩, ⟨(some 49), (.mov (.t 48)), none, .full⟩, ⟨(some 50), (.faddr 4 (.t 1)), (some (49, false)), .full⟩, ⟨(some 51), (.load 1 false (.t 50)), (some (49, false)), .full⟩, ⟨(some 52), (.len false (.t 51)), (some (49, false)), .full⟩, ⟨(some 53), (.bin false .gtr (.t 52) (.c (.int .i64 32))), (some (49, false)), .full⟩, ⟨(some 54), (.pick (.t 49) (.c (.bool true)) (.t 53)), none, .full⟩])
 (.cond (.t 54)
 (.seq (.reg [⟨(some 2), (.mov (.c (.int .i64 10))), none, .full⟩])
 .ret)
 .skip))
 (.seq (.seq (.reg [⟨(some 55), (.faddr 1 (.t 1)), none, .full⟩, ⟨(some 56), (.load 1 false (.t 55)), none, .full⟩, ⟨(some 57), (.len false (.t 56)), none, .full⟩, ⟨(some 58), (.mov (.c (.int .i64 0))), none, .full⟩])
 (.block 0 (.loop L51_0)))
 (.seq (.reg [⟨(some 86), (.faddr 0 (.t 1)), none, .full⟩, ⟨(some 87), (.load 1 false (.t 86)), none, .full⟩, ⟨(some 88), (.faddr 1 (.t 1)), none, .full⟩, ⟨(some 89), (.load 1 false (.t 88)), none, .full⟩, ⟨(some 90), (.call 74 0 [] [(.t 87), (.t 89)]), none, .full⟩, ⟨(some 5), (.alloc [.nils]), none, .full⟩, ⟨none, (.store 1 (.t 5) (.t 90)), none, .full⟩])
 (.seq (.seq (.reg [⟨(some 91), (.faddr 3 (.t 1)), none, .full⟩, ⟨(some 92), (.load 1 false (.t 91)), none, .full⟩, ⟨(some 93), (.len false (.t 92)), none, .full⟩, ⟨(some 94), (.mov (.c (.int .i64 0))), none, .full⟩])
 (.block 2 (.loop L51_1)))
 (.seq (.seq (.reg [⟨(some 138), (.faddr 4 (.t 1)), none, .full⟩, ⟨(some 139), (.load 1 false (.t 138)), none, .full⟩, ⟨(some 140), (.len false (.t 139)), none, .full⟩, ⟨(some 141), (.mov (.c (.int .i64 0))), none, .full⟩])
 (.block 6 (.loop L51_3)))
 (.seq (.reg [⟨(some 2), (.mov (.c (.int .i64 0))), none, .full⟩])
 .ret))))))))⟩
theorem ok51 : ∃ fn hh, Try.prog.funcs[51]? = some fn ∧ (∀ vals w, (callFunc 51 vals).run Try.prog w = .ok (.enter 51 vals) w) ∧ comp Try.prog hh fn = some F51 :=
  ⟨_, hintOf [], Try.func51, Try.call51, by kernel_rfl⟩
def L52_0 : TCode := (.seq (.reg [⟨(some 44), (.bin false .lss (.t 43) (.t 42)), none, .full⟩])
 (.seq (.cond (.t 44)
 .skip
 (.exit 1))
 (.seq (.block 2 (.seq (.reg [⟨(some 45), (.mov (.t 43)), none, .full⟩, ⟨(some 46), (.iaddr 2 (.t 41) (.t 43)), none, .full⟩, ⟨(some 47), (.load 2 true (.t 46)), none, .full⟩, ⟨(some 6), (.alloc [.nils, (.int .i64 0)]), none, .full⟩, ⟨(some 5), (.mov (.t 45)), none, .full⟩, ⟨none, (.store 2 (.t 6) (.t 47)), none, .full⟩])
 (.seq (.reg [⟨(some 48), (.mov (.t 0)), none, .none⟩, ⟨(some 49), (.load 2 true (.t 6)), none, (.box 6)⟩, ⟨(some 50), (.faddr 2 (.t 3)), none, .none⟩, ⟨(some 51), (.load 1 false (.t 50)), none, (.box 3)⟩, ⟨(some 52), (.mov (.t 5)), none, .none⟩, ⟨(some 53), (.iaddr 4 (.t 51) (.t 52)), none, .none⟩, ⟨(some 54), (.load 4 true (.t 53)), none, (.rd [])⟩, ⟨(some 55), (.call 78 0 [] [(.t 48), (.t 49), (.t 54)]), none, (.rd [])⟩, ⟨(some 7), (.mov (.t 55)), none, .none⟩])
 (.seq (.reg [⟨(some 56), (.mov (.t 7)), none, .full⟩, ⟨(some 57), (.bin false .neq (.t 56) (.c (.int .i64 0))), none, .full⟩])
 (.cond (.t 57)
 (.seq (.reg [⟨(some 58), (.mov (.t 7)), none, .full⟩, ⟨(some 4), (.mov (.t 58)), none, .full⟩])
 .ret)
 .skip)))))
 (.reg [⟨(some 59), (.bin false .add (.t 43) (.c (.int .i64 1))), none, .full⟩, ⟨(some 43), (.mov (.t 59)), none, .full⟩]))))
def L52_1 : TCode := (.seq (.reg [⟨(some 64), (.bin false .lss (.t 63) (.t 62)), none, .full⟩])
 (.seq (.cond (.t 64)
 .skip
 (.exit 3))
 (.seq (.block 4 (.seq (.reg [⟨(some 65), (.iaddr 3 (.t 61) (.t 63)), none, .full⟩, ⟨(some 66), (.load 3 true (.t 65)), none, .full⟩, ⟨(some 9), (.alloc [(.int .i64 0), (.int .i64 0), (.bool false)]), none, .full⟩, ⟨none, (.store 3 (.t 9) (.t 66)), none, .full⟩])
 (.seq (.reg [⟨(some 67), (.faddr 0 (.t 9)), none, .full⟩, ⟨(some 68), (.load 1 false (.t 67)), none, .full⟩, ⟨(some 69), (.bin false .lss (.t 68) (.c (.int .i64 0))), none, .full⟩, ⟨(some 70), (.mov (.t 69)), none, .full⟩, ⟨(some 71), (.faddr 0 (.t 9)), (some (70, false)), .full⟩, ⟨(some 72), (.load 1 false (.t 71)), (some (70, false)), .full⟩, ⟨(some 73), (.mov (.t 0)), (some (70, false)), .full⟩, ⟨(some 74), (.bin false .geq (.t 72) (.t 73)), (some (70, false)), .full⟩, ⟨(some 75), (.pick (.t 70) (.c (.bool true)) (.t 74)), none, .full⟩, ⟨(some 76), (.mov (.t 75)), none, .full⟩, ⟨(some 77), (.faddr 1 (.t 9)), (some (76, false)), .full⟩, ⟨(some 78), (.load 1 false (.t 77)), (some (76, false)), .full⟩, ⟨(some 79), (.bin false .lss (.t 78) (.c (.int .i64 0))), (some (76, false)), .full⟩, ⟨(some 80), (.pick (.t 76) (.c (.bool true)) (.t 79)), none, .full⟩, ⟨(some 81), (.mov (.t 80)), none, .full⟩, ⟨(some 82), (.faddr 1 (.t 9)), (some (81, false)), .full⟩, ⟨(some 83), (.load 1 false (.t 82)), (some (81, false)), .full⟩, ⟨(some 84), (.mov (.t 0)), (some (81, false)), .full⟩, ⟨(some 85), (.bin false .geq (.t 83) (.t 84)), (some (81, false)), .full⟩, ⟨(some 86), (.pick (.t 81) (.c (.bool true)) (.t 85)), none, .full⟩, ⟨(some 87), (.mov (.t 86)), none, .full⟩, ⟨(some 88), (.faddr 0 (.t 9)), (some (87, false)), .full⟩, ⟨(some 89), (.load 1 false (.t 88)), (some (87, false)), .full⟩, ⟨(some 90), (.faddr 1 (.t 9)), (some (87, false)), .full⟩, ⟨(some 91), (.load 1 false (.t 90)), (some (87, false)), .full⟩, ⟨(some 92), (.bin false .eql (.t 89) (.t 91)), (some (87, false)), .full⟩, ⟨(some 93), (.pick (.t 87) (.c (.bool true)) (.t 92)), none, .full⟩])
 (.cond (.t 93)
 (.seq (.reg [⟨(some 4), (.mov (.c (.int .i64 5))), none, .full⟩])
 .ret)
 .skip))))
 (.reg [⟨(some 94), (.bin false .add (.t 63) (.c (.int .i64 1))), none, .full⟩, ⟨(some 63), (.mov (.t 94)), none, .full⟩]))))
def F52 : TFunc := ⟨2, 95, [(.tmp 4)],
 (.seq (.reg [⟨(some 3), (.box 5 (.t 1)), none, .full⟩, ⟨(some 4), (.mov (.c (.int .i64 0))), none, .full⟩])
 (.seq (.block 0 (.seq (.reg [⟨(some 11), (.mov (.t 0)), none, .full⟩, ⟨(some 12), (.bin false .lss (.t 11) (.c (.int .i64 0))), none, .full⟩, ⟨(some 13), (.mov (.t 12)), none, .full⟩, ⟨(some 14), (.faddr 0 (.t 3)), (some (13, false)), .full⟩, ⟨(some 15), (.load 1 false (.t 14)), (some (13, false)), .full⟩, ⟨(some 16), (.len false (.t 15)), (some (13, false)), .full⟩, ⟨(some 17), (.mov (.t 0)), (some (13, false)), .full⟩, ⟨(some 18), (.bin false .neq (.t 16) (.t 17)), (some (13, false)), .full⟩, ⟨(some 19), (.pick (.t 13) (.c (.bool true)) (.t 18)), none, .full⟩, ⟨(some 20), (.mov (.t 19)), none, .full⟩, ⟨(some 21), (.faddr 2 (.t 3)), (some (20, false)), .full⟩, ⟨(some 22), (.load 1 false (.t 21)), (some (20, false)), .full⟩, ⟨(some 23), (.len false (.t 22)), (some (20, false)), .full⟩, ⟨(some 24), (.faddr 1 (.t 3)), (some (20, false)), .full⟩, ⟨(some 25), (.load 1 false (.t 24)), (some (20, false)), .full⟩, ⟨(some 26), (.len false (.t 25)), (some (20, false)), .full⟩, ⟨(some 27), (.bin false .neq (.t 23) (.t 26)), (some (20, false)), .full⟩, ⟨(some 28), (.pick (.t 20) (.c (.bool true)) (.t 27)), none, .full⟩, ⟨(some 10), (.mov (.t 28)), none, .full⟩])
 (.cond (.t 10)
 (.seq (.reg [⟨(some 4), (.mov (.c (.int .i64 12))), none, .full⟩])
 .ret)
 (.seq (.reg [⟨(some 30), (.faddr 1 (.t 3)), none, .full⟩, ⟨(some 31), (.load 1 false (.t 30)), none, .full⟩, ⟨(some 32), (.len false (.t 31)), none, .full⟩, ⟨(some 33), (.bin false .gtr (.t 32) (.c (.int .i64 32))), none, .full⟩, ⟨(some 34), (.mov (.t 33)), none, .full⟩, ⟨(some 35), (.faddr 3 (.t 3)), (some (34, false)), .full⟩, ⟨(some 36), (.load 1 false (.t 35)), (some (34, false)), .full⟩, ⟨(some 37), (.len false (.t 36)), (some (34, false)), .full⟩, ⟨(some 38), (.bin false .gtr (.t 37) (.c (.int .i64 32))), (some (34, false)), .full⟩, ⟨(some 39), (.pick (.t 34) (.c (.bool true)) (.t 38)), none, .full⟩, ⟨(some 29), (.mov (.t 39)), none, .full⟩])
 (.cond (.t 29)
 (.seq (.reg [⟨(some 4), (.mov (.c (.int .i64 10))), none, .full⟩])
 .ret)
 .skip)))))
 (.seq (.seq (.reg [⟨(some 40), (.faddr 1 (.t 3)), none, .full⟩, ⟨(some 41), (.load 1 false (.t 40)), none, .full⟩, ⟨(some 42), (.len false (.t 41)), none, .full⟩, ⟨(some 43), (.mov (.c (.int .i64 0))), none, .full⟩])
 (.block 1 (.loop L52_0)))
 (.seq (.seq (.reg [⟨(some 60), (.faddr 3 (.t 3)), none, .full⟩, ⟨(some 61), (.load 1 false (.t 60)), none, .full⟩, ⟨(some 62), (.len false (.t 61)), none, .full⟩, ⟨(some 63), (.mov (.c (.int .i64 0))), none, .full⟩])
 (.block 3 (.loop L52_1)))
 (.seq (.reg [⟨(some 4), (.mov (.c (.int .i64 0))), none, .full⟩])
 .ret)))))⟩
theorem ok52 : ∃ fn hh, Try.prog.funcs[52]? = some fn ∧ (∀ vals w, (callFunc 52 vals).run Try.prog w = .ok (.enter 52 vals) w) ∧ comp Try.prog hh fn = some F52 :=
  ⟨_, hintOf [], Try.func52, Try.call52, by kernel_rfl⟩
def F53 : TFunc := ⟨2, 15, [(.cell 4 4 true)],
 (.seq (.reg [⟨(some 2), (.box 4 (.t 0)), none, .full⟩, ⟨(some 3), (.box 4 (.t 1)), none, .full⟩, ⟨(some 4), (.alloc [(.bool false), .nils, (.bool false), .nils]), none, .full⟩])
 (.seq (.seq (.reg [⟨(some 5), (.load 4 true (.t 2)), none, .full⟩, ⟨(some 6), (.load 4 true (.t 3)), none, .full⟩, ⟨(some 7), (.call 79 0 [] [(.t 5), (.t 6)]), none, .full⟩, ⟨(some 8), (.bin false .leq (.t 7) (.c (.int .i64 0))), none, .full⟩])
 (.cond (.t 8)
 (.seq (.reg [⟨(some 9), (.load 4 true (.t 2)), none, (.box 2)⟩, ⟨(some 10), (.call 44 0 [] [(.c (.int .i64 0))]), none, (.rd [])⟩, ⟨(some 11), (.call 22 0 [] [(.t 9), (.t 10)]), none, (.rd [])⟩, ⟨none, (.store 4 (.t 4) (.t 11)), none, (.box 4)⟩])
 .ret)
 .skip))
 (.seq (.reg [⟨(some 12), (.load 4 true (.t 3)), none, (.box 3)⟩, ⟨(some 13), (.call 44 0 [] [(.c (.int .i64 0))]), none, (.rd [])⟩, ⟨(some 14), (.call 22 0 [] [(.t 12), (.t 13)]), none, (.rd [])⟩, ⟨none, (.store 4 (.t 4) (.t 14)), none, (.box 4)⟩])
 .ret)))⟩
theorem ok53 : ∃ fn hh, Try.prog.funcs[53]? = some fn ∧ (∀ vals w, (callFunc 53 vals).run Try.prog w = .ok (.enter 53 vals) w) ∧ comp Try.prog hh fn = some F53 :=
  ⟨_, hintOf [], Try.func53, Try.call53, by kernel_rfl⟩
def L54_0 : TCode := (.seq (.reg [⟨(some 16), (.bin false .lss (.t 15) (.t 14)), none, .full⟩])
 (.seq (.cond (.t 16)
 .skip
 (.exit 0))
 (.seq (.block 1 (.seq (.reg [⟨(some 17), (.mov (.t 15)), none, .full⟩, ⟨(some 18), (.iaddr 1 (.t 13) (.t 15)), none, .full⟩, ⟨(some 19), (.load 1 false (.t 18)), none, .full⟩, ⟨(some 6), (.mov (.t 17)), none, .full⟩, ⟨(some 7), (.mov (.t 19)), none, .full⟩])
 (.reg [⟨(some 20), (.mov (.t 5)), none, .full⟩, ⟨(some 21), (.mov (.t 7)), none, .full⟩, ⟨(some 22), (.conv .u64 (.t 21)), none, .full⟩, ⟨(some 23), (.mov (.t 6)), none, .full⟩, ⟨(some 24), (.bin false .mul (.c (.int .i64 32)) (.t 23)), none, .full⟩, ⟨(some 25), (.bin false .shl (.t 22) (.t 24)), none, .full⟩, ⟨(some 26), (.bin false .or (.t 20) (.t 25)), none, .full⟩, ⟨(some 5), (.mov (.t 26)), none, .full⟩])))
 (.reg [⟨(some 27), (.bin false .add (.t 15) (.c (.int .i64 1))), none, .full⟩, ⟨(some 15), (.mov (.t 27)), none, .full⟩]))))
def F54 : TFunc := ⟨1, 48, [(.tmp 2), (.tmp 3)],
 (.seq (.reg [⟨(some 1), (.box 2 (.t 0)), none, .full⟩, ⟨(some 2), (.mov (.c (.int .i64 0))), none, .full⟩, ⟨(some 3), (.mov (.c (.int .i64 0))), none, .full⟩])
 (.seq (.reg [⟨(some 8), (.load 2 true (.t 1)), none, .full⟩, ⟨(some 9), (.call 70 0 [] [(.t 8)]), none, .full⟩, ⟨(some 4), (.mov (.t 9)), none, .full⟩])
 (.seq (.seq (.reg [⟨(some 10), (.mov (.t 4)), none, .full⟩, ⟨(some 11), (.len false (.t 10)), none, .full⟩, ⟨(some 12), (.bin false .gtr (.t 11) (.c (.int .i64 2))), none, .full⟩])
 (.cond (.t 12)
 (.seq (.reg [⟨(some 2), (.mov (.c (.int .i64 0))), none, .full⟩, ⟨(some 3), (.mov (.c (.int .i64 5))), none, .full⟩])
 .ret)
 .skip))
 (.seq (.reg [⟨(some 5), (.mov (.c (.int .u64 0))), none, .full⟩])
 (.seq (.seq (.reg [⟨(some 13), (.mov (.t 4)), none, .full⟩, ⟨(some 14), (.len false (.t 13)), none, .full⟩, ⟨(some 15), (.mov (.c (.int .i64 0))), none, .full⟩])
 (.block 0 (.loop L54_0)))
 (.seq (.block 2 (.seq (.reg [⟨(some 29), (.faddr 0 (.t 1)), none, .full⟩, ⟨(some 30), (.load 1 false (.t 29)), none, .full⟩, ⟨(some 31), (.mov (.t 30)), none, .full⟩, ⟨(some 32), (.mov (.t 5)), (some (31, true)), .full⟩, ⟨(some 33), (.bin false .leq (.t 32) (.c (.int .u64 9223372036854775808))), (some (31, true)), .full⟩, ⟨(some 34), (.pick (.t 31) (.t 33) (.c (.bool false))), none, .full⟩, ⟨(some 28), (.mov (.t 34)), none, .full⟩])
 (.cond (.t 28)
 (.seq (.reg [⟨(some 35), (.mov (.t 5)), none, .full⟩, ⟨(some 36), (.un .neg (.t 35)), none, .full⟩, ⟨(some 37), (.conv .i64 (.t 36)), none, .full⟩, ⟨(some 2), (.mov (.t 37)), none, .full⟩, ⟨(some 3), (.mov (.c (.int .i64 0))), none, .full⟩])
 .ret)
 (.seq (.reg [⟨(some 39), (.faddr 0 (.t 1)), none, .full⟩, ⟨(some 40), (.load 1 false (.t 39)), none, .full⟩, ⟨(some 41), (.un .not (.t 40)), none, .full⟩, ⟨(some 42), (.mov (.t 41)), none, .full⟩, ⟨(some 43), (.mov (.t 5)), (some (42, true)), .full⟩, ⟨(some 44), (.bin false .lss (.t 43) (.c (.int .u64 9223372036854775808))), (some (42, true)), .full⟩, ⟨(some 45), (.pick (.t 42) (.t 44) (.c (.bool false))), none, .full⟩, ⟨(some 38), (.mov (.t 45)), none, .full⟩])
 (.cond (.t 38)
 (.seq (.reg [⟨(some 46), (.mov (.t 5)), none, .full⟩, ⟨(some 47), (.conv .i64 (.t 46)), none, .full⟩, ⟨(some 2), (.mov (.t 47)), none, .full⟩, ⟨(some 3), (.mov (.c (.int .i64 0))), none, .full⟩])
 .ret)
 .skip)))))
 (.seq (.reg [⟨(some 2), (.mov (.c (.int .i64 0))), none, .full⟩, ⟨(some 3), (.mov (.c (.int .i64 5))), none, .full⟩])
 .ret)))))))⟩
theorem ok54 : ∃ fn hh, Try.prog.funcs[54]? = some fn ∧ (∀ vals w, (callFunc 54 vals).run Try.prog w = .ok (.enter 54 vals) w) ∧ comp Try.prog hh fn = some F54 :=
  ⟨_, hintOf [], Try.func54, Try.call54, by kernel_rfl⟩
def F55 : TFunc := ⟨1, 7, [(.cell 2 2 true)],
 (.seq (.reg [⟨(some 1), (.box 4 (.t 0)), none, .full⟩, ⟨(some 2), (.alloc [(.bool false), .nils]), none, .full⟩])
 (.seq (.reg [⟨(some 3), (.load 4 true (.t 1)), none, .full⟩, ⟨(some 4), (.call 81 0 [] [(.t 3)]), none, .full⟩, ⟨(some 5), (.call 80 0 [] [(.t 4)]), none, .full⟩, ⟨(some 6), (.call 65 0 [] [(.t 5)]), none, .full⟩, ⟨none, (.store 2 (.t 2) (.t 6)), none, .full⟩])
 .ret))⟩
theorem ok55 : ∃ fn hh, Try.prog.funcs[55]? = some fn ∧ (∀ vals w, (callFunc 55 vals).run Try.prog w = .ok (.enter 55 vals) w) ∧ comp Try.prog hh fn = some F55 :=
  ⟨_, hintOf [], Try.func55, Try.call55, by kernel_rfl⟩
def L56_0 : TCode := (.seq (.seq (.reg [⟨(some 20), (.mov (.t 5)), none, .full⟩, ⟨(some 21), (.faddr 1 (.t 2)), none, .full⟩, ⟨(some 22), (.load 1 false (.t 21)), none, .full⟩, ⟨(some 23), (.len false (.t 22)), none, .full⟩, ⟨(some 24), (.bin false .lss (.t 20) (.t 23)), none, .full⟩])
 (.cond (.t 24)
 .skip
 (.exit 0)))
 (.seq (.block 1 (.seq (.reg [⟨(some 27), (.faddr 1 (.t 2)), none, .none⟩, ⟨(some 28), (.load 1 false (.t 27)), none, (.box 2)⟩, ⟨(some 29), (.mov (.t 5)), none, .none⟩, ⟨(some 30), (.iaddr 1 (.t 28) (.t 29)), none, .none⟩, ⟨(some 31), (.load 1 false (.t 30)), none, (.rd [])⟩, ⟨(some 32), (.faddr 1 (.t 3)), none, .none⟩, ⟨(some 33), (.load 1 false (.t 32)), none, (.box 3)⟩, ⟨(some 34), (.mov (.t 5)), none, .none⟩, ⟨(some 35), (.iaddr 1 (.t 33) (.t 34)), none, .none⟩, ⟨(some 36), (.load 1 false (.t 35)), none, (.rd [])⟩, ⟨(some 37), (.bin false .neq (.t 31) (.t 36)), none, .none⟩])
 (.cond (.t 37)
 (.seq (.reg [⟨(some 4), (.mov (.c (.bool false))), none, .full⟩])
 .ret)
 .skip)))
 (.reg [⟨(some 25), (.mov (.t 5)), none, .full⟩, ⟨(some 26), (.bin false .add (.t 25) (.c (.int .i64 1))), none, .full⟩, ⟨(some 5), (.mov (.t 26)), none, .full⟩])))
def F56 : TFunc := ⟨2, 38, [(.tmp 4)],
 (.seq (.reg [⟨(some 2), (.box 2 (.t 0)), none, .full⟩, ⟨(some 3), (.box 2 (.t 1)), none, .full⟩, ⟨(some 4), (.mov (.c (.bool false))), none, .full⟩])
 (.seq (.seq (.reg [⟨(some 6), (.faddr 0 (.t 2)), none, .full⟩, ⟨(some 7), (.load 1 false (.t 6)), none, .full⟩, ⟨(some 8), (.faddr 0 (.t 3)), none, .full⟩, ⟨(some 9), (.load 1 false (.t 8)), none, .full⟩, ⟨(some 10), (.bin true .neq (.t 7) (.t 9)), none, .full⟩, ⟨(some 11), (.mov (.t 10)), none, .full⟩, ⟨(some 12), (.faddr 1 (.t 2)), (some (11, false)), .full⟩, ⟨(some 13), (.load 1 false (.t 12)), (some (11, false)), .full⟩, ⟨(some 14), (.len false (.t 13)), (some (11, false)), .full⟩, ⟨(some 15), (.faddr 1 (.t 3)), (some (11, false)), .full⟩, ⟨(some 16), (.load 1 false (.t 15)), (some (11, false)), .full⟩, ⟨(some 17), (.len false (.t 16)), (some (11, false)), .full⟩, ⟨(some 18), (.bin false .neq (.t 14) (.t 17)), (some (11, false)), .full⟩, ⟨(some 19), (.pick (.t 11) (.c (.bool true)) (.t 18)), none, .full⟩])
 (.cond (.t 19)
 (.seq (.reg [⟨(some 4), (.mov (.c (.bool false))), none, .full⟩])
 .ret)
 .skip))
 (.seq (.seq (.reg [⟨(some 5), (.mov (.c (.int .i64 0))), none, .full⟩])
 (.block 0 (.loop L56_0)))
 (.seq (.reg [⟨(some 4), (.mov (.c (.bool true))), none, .full⟩])
 .ret))))⟩
theorem ok56 : ∃ fn hh, Try.prog.funcs[56]? = some fn ∧ (∀ vals w, (callFunc 56 vals).run Try.prog w = .ok (.enter 56 vals) w) ∧ comp Try.prog hh fn = some F56 :=
  ⟨_, hintOf [], Try.func56, Try.call56, by kernel_rfl⟩
def L57_1 : TCode := (.seq (.seq (.reg [⟨(some 21), (.mov (.t 8)), none, .full⟩, ⟨(some 22), (.mov (.t 1)), none, .full⟩, ⟨(some 23), (.len false (.t 22)), none, .full⟩, ⟨(some 24), (.bin false .lss (.t 21) (.t 23)), none, .full⟩])
 (.cond (.t 24)
 .skip
 (.exit 2)))
 (.seq (.block 3 (.seq (.reg [⟨(some 27), (.mov (.t 7)), none, .none⟩, ⟨(some 28), (.mov (.t 5)), none, .none⟩, ⟨(some 29), (.mov (.t 6)), none, .none⟩, ⟨(some 30), (.mov (.t 8)), none, .none⟩, ⟨(some 31), (.bin false .add (.t 29) (.t 30)), none, .none⟩, ⟨(some 32), (.iaddr 1 (.t 28) (.t 31)), none, .none⟩, ⟨(some 33), (.load 1 false (.t 32)), none, (.rd [])⟩, ⟨(some 34), (.conv .u64 (.t 33)), none, .none⟩, ⟨(some 35), (.bin false .add (.t 27) (.t 34)), none, .none⟩, ⟨(some 36), (.mov (.t 0)), none, .none⟩, ⟨(some 37), (.mov (.t 6)), none, .none⟩, ⟨(some 38), (.iaddr 1 (.t 36) (.t 37)), none, .none⟩, ⟨(some 39), (.load 1 false (.t 38)), none, (.rd [])⟩, ⟨(some 40), (.conv .u64 (.t 39)), none, .none⟩, ⟨(some 41), (.mov (.t 1)), none, .none⟩, ⟨(some 42), (.mov (.t 8)), none, .none⟩, ⟨(some 43), (.iaddr 1 (.t 41) (.t 42)), none, .none⟩, ⟨(some 44), (.load 1 false (.t 43)), none, (.rd [])⟩, ⟨(some 45), (.conv .u64 (.t 44)), none, .none⟩, ⟨(some 46), (.bin false .mul (.t 40) (.t 45)), none, .none⟩, ⟨(some 47), (.bin false .add (.t 35) (.t 46)), none, .none⟩, ⟨(some 7), (.mov (.t 47)), none, .none⟩])
 (.seq (.reg [⟨(some 48), (.mov (.t 5)), none, .full⟩, ⟨(some 49), (.mov (.t 6)), none, .full⟩, ⟨(some 50), (.mov (.t 8)), none, .full⟩, ⟨(some 51), (.bin false .add (.t 49) (.t 50)), none, .full⟩, ⟨(some 52), (.mov (.t 7)), none, .full⟩, ⟨(some 53), (.conv .u32 (.t 52)), none, .full⟩, ⟨(some 54), (.iaddr 1 (.t 48) (.t 51)), none, .full⟩, ⟨none, (.store 1 (.t 54) (.t 53)), none, .full⟩])
 (.reg [⟨(some 55), (.mov (.t 7)), none, .full⟩, ⟨(some 56), (.bin false .shr (.t 55) (.c (.int .u64 32))), none, .full⟩, ⟨(some 7), (.mov (.t 56)), none, .full⟩]))))
 (.reg [⟨(some 25), (.mov (.t 8)), none, .full⟩, ⟨(some 26), (.bin false .add (.t 25) (.c (.int .i64 1))), none, .full⟩, ⟨(some 8), (.mov (.t 26)), none, .full⟩])))
def L57_0 : TCode := (.seq (.seq (.reg [⟨(some 15), (.mov (.t 6)), none, .full⟩, ⟨(some 16), (.mov (.t 0)), none, .full⟩, ⟨(some 17), (.len false (.t 16)), none, .full⟩, ⟨(some 18), (.bin false .lss (.t 15) (.t 17)), none, .full⟩])
 (.cond (.t 18)
 .skip
 (.exit 0)))
 (.seq (.block 1 (.seq (.reg [⟨(some 7), (.mov (.c (.int .u64 0))), none, .full⟩])
 (.seq (.seq (.reg [⟨(some 8), (.mov (.c (.int .i64 0))), none, .full⟩])
 (.block 2 (.loop L57_1)))
 (.reg [⟨(some 57), (.mov (.t 5)), none, .full⟩, ⟨(some 58), (.mov (.t 6)), none, .full⟩, ⟨(some 59), (.mov (.t 1)), none, .full⟩, ⟨(some 60), (.len false (.t 59)), none, .full⟩, ⟨(some 61), (.bin false .add (.t 58) (.t 60)), none, .full⟩, ⟨(some 62), (.mov (.t 7)), none, .full⟩, ⟨(some 63), (.conv .u32 (.t 62)), none, .full⟩, ⟨(some 64), (.iaddr 1 (.t 57) (.t 61)), none, .full⟩, ⟨none, (.store 1 (.t 64) (.t 63)), none, .full⟩]))))
 (.reg [⟨(some 19), (.mov (.t 6)), none, .full⟩, ⟨(some 20), (.bin false .add (.t 19) (.c (.int .i64 1))), none, .full⟩, ⟨(some 6), (.mov (.t 20)), none, .full⟩])))
def F57 : TFunc := ⟨2, 67, [(.tmp 4)],
 (.seq (.reg [⟨(some 4), (.mov (.c .nils)), none, .full⟩])
 (.seq (.reg [⟨(some 9), (.mov (.t 0)), none, .full⟩, ⟨(some 10), (.len false (.t 9)), none, .full⟩, ⟨(some 11), (.mov (.t 1)), none, .full⟩, ⟨(some 12), (.len false (.t 11)), none, .full⟩, ⟨(some 13), (.bin false .add (.t 10) (.t 12)), none, .full⟩, ⟨(some 14), (.mk 1 [(.int .u32 0)] (.t 13)), none, .full⟩, ⟨(some 5), (.mov (.t 14)), none, .full⟩])
 (.seq (.seq (.reg [⟨(some 6), (.mov (.c (.int .i64 0))), none, .full⟩])
 (.block 0 (.loop L57_0)))
 (.seq (.reg [⟨(some 65), (.mov (.t 5)), none, .full⟩, ⟨(some 66), (.call 59 0 [] [(.t 65)]), none, .full⟩, ⟨(some 4), (.mov (.t 66)), none, .full⟩])
 .ret))))⟩
theorem ok57 : ∃ fn hh, Try.prog.funcs[57]? = some fn ∧ (∀ vals w, (callFunc 57 vals).run Try.prog w = .ok (.enter 57 vals) w) ∧ comp Try.prog hh fn = some F57 :=
  ⟨_, hintOf [], Try.func57, Try.call57, by kernel_rfl⟩
def F58 : TFunc := ⟨2, 28, [(.tmp 4)],
 (.seq (.reg [⟨(some 2), (.box 2 (.t 0)), none, .full⟩, ⟨(some 3), (.box 2 (.t 1)), none, .full⟩, ⟨(some 4), (.mov (.c (.int .i64 0))), none, .full⟩])
 (.seq (.reg [⟨(some 5), (.load 2 true (.t 2)), none, (.box 2)⟩, ⟨(some 6), (.call 39 0 [] [(.t 5)]), none, (.rd [])⟩, ⟨(some 7), (.load 2 true (.t 3)), none, (.box 3)⟩, ⟨(some 8), (.call 39 0 [] [(.t 7)]), none, (.rd [])⟩, ⟨none, (.store 2 (.t 2) (.t 6)), none, (.box 2)⟩, ⟨none, (.store 2 (.t 3) (.t 8)), none, (.box 3)⟩])
 (.seq (.seq (.reg [⟨(some 9), (.faddr 0 (.t 2)), none, .full⟩, ⟨(some 10), (.load 1 false (.t 9)), none, .full⟩, ⟨(some 11), (.faddr 0 (.t 3)), none, .full⟩, ⟨(some 12), (.load 1 false (.t 11)), none, .full⟩, ⟨(some 13), (.bin true .neq (.t 10) (.t 12)), none, .full⟩])
 (.cond (.t 13)
 (.seq (.seq (.reg [⟨(some 14), (.faddr 0 (.t 2)), none, .full⟩, ⟨(some 15), (.load 1 false (.t 14)), none, .full⟩])
 (.cond (.t 15)
 (.seq (.reg [⟨(some 4), (.mov (.c (.int .i64 (-1)))), none, .full⟩])
 .ret)
 .skip))
 (.seq (.reg [⟨(some 4), (.mov (.c (.int .i64 1))), none, .full⟩])
 .ret))
 .skip))
 (.seq (.seq (.reg [⟨(some 16), (.faddr 0 (.t 2)), none, .full⟩, ⟨(some 17), (.load 1 false (.t 16)), none, .full⟩])
 (.cond (.t 17)
 (.seq (.reg [⟨(some 18), (.faddr 1 (.t 3)), none, .full⟩, ⟨(some 19), (.load 1 false (.t 18)), none, .full⟩, ⟨(some 20), (.faddr 1 (.t 2)), none, .full⟩, ⟨(some 21), (.load 1 false (.t 20)), none, .full⟩, ⟨(some 22), (.call 72 0 [] [(.t 19), (.t 21)]), none, .full⟩, ⟨(some 4), (.mov (.t 22)), none, .full⟩])
 .ret)
 .skip))
 (.seq (.reg [⟨(some 23), (.faddr 1 (.t 2)), none, .full⟩, ⟨(some 24), (.load 1 false (.t 23)), none, .full⟩, ⟨(some 25), (.faddr 1 (.t 3)), none, .full⟩, ⟨(some 26), (.load 1 false (.t 25)), none, .full⟩, ⟨(some 27), (.call 72 0 [] [(.t 24), (.t 26)]), none, .full⟩, ⟨(some 4), (.mov (.t 27)), none, .full⟩])
 .ret)))))⟩
theorem ok58 : ∃ fn hh, Try.prog.funcs[58]? = some fn ∧ (∀ vals w, (callFunc 58 vals).run Try.prog w = .ok (.enter 58 vals) w) ∧ comp Try.prog hh fn = some F58 :=
  ⟨_, hintOf [], Try.func58, Try.call58, by kernel_rfl⟩
def L59_0 : TCode := (.seq (.seq (.reg [⟨(some 6), (.mov (.t 3)), none, .full⟩, ⟨(some 7), (.bin false .gtr (.t 6) (.c (.int .i64 0))), none, .full⟩, ⟨(some 8), (.mov (.t 7)), none, .full⟩, ⟨(some 9), (.mov (.t 0)), (some (8, true)), .full⟩, ⟨(some 10), (.mov (.t 3)), (some (8, true)), .full⟩, ⟨(some 11), (.bin false .sub (.t 10) (.c (.int .i64 1))), (some (8, true)), .full⟩, ⟨(some 12), (.iaddr 1 (.t 9) (.t 11)), (some (8, true)), .full⟩, ⟨(some 13), (.load 1 false (.t 12)), (some (8, true)), .full⟩, ⟨(some 14), (.bin false .eql (.t 13) (.c (.int .u32 0))), (some (8, true)), .full⟩, ⟨(some 15), (.pick (.t 8) (.t 14) (.c (.bool false))), none, .full⟩])
 (.cond (.t 15)
 .skip
 (.exit 0)))
 (.block 1 (.reg [⟨(some 16), (.mov (.t 3)), none, .full⟩, ⟨(some 17), (.bin false .sub (.t 16) (.c (.int .i64 1))), none, .full⟩, ⟨(some 3), (.mov (.t 17)), none, .full⟩])))
def F59 : TFunc := ⟨1, 21, [(.tmp 2)],
 (.seq (.reg [⟨(some 2), (.mov (.c .nils)), none, .full⟩])
 (.seq (.reg [⟨(some 4), (.mov (.t 0)), none, .full⟩, ⟨(some 5), (.len false (.t 4)), none, .full⟩, ⟨(some 3), (.mov (.t 5)), none, .full⟩])
 (.seq (.block 0 (.loop L59_0))
 (.seq (.reg [⟨(some 18), (.mov (.t 0)), none, .full⟩, ⟨(some 19), (.mov (.t 3)), none, .full⟩, ⟨(some 20), (.slice 1 false (.t 18) none (some (.t 19)) none), none, .full⟩, ⟨(some 2), (.mov (.t 20)), none, .full⟩])
 .ret))))⟩
theorem ok59 : ∃ fn hh, Try.prog.funcs[59]? = some fn ∧ (∀ vals w, (callFunc 59 vals).run Try.prog w = .ok (.enter 59 vals) w) ∧ comp Try.prog hh fn = some F59 :=
  ⟨_, hintOf [], Try.func59, Try.call59, by kernel_rfl⟩
def L60_0 : TCode := (.seq (.seq (.reg [⟨(some 30), (.mov (.t 10)), none, .full⟩, ⟨(some 31), (.bin false .geq (.t 30) (.c (.int .i64 0))), none, .full⟩])
 (.cond (.t 31)
 .skip
 (.exit 0)))
 (.seq (.block 1 (.seq (.seq (.reg [⟨(some 34), (.mov (.t 6)), none, .full⟩, ⟨(some 35), (.mov (.t 9)), none, .full⟩, ⟨(some 36), (.call 72 0 [] [(.t 34), (.t 35)]), none, .full⟩, ⟨(some 37), (.bin false .geq (.t 36) (.c (.int .i64 0))), none, .full⟩])
 (.cond (.t 37)
 (.seq (.reg [⟨(some 38), (.mov (.t 6)), none, .full⟩, ⟨(some 39), (.mov (.t 9)), none, .full⟩, ⟨(some 40), (.call 73 0 [] [(.t 38), (.t 39)]), none, .full⟩, ⟨(some 6), (.mov (.t 40)), none, .full⟩])
 (.reg [⟨(some 41), (.mov (.t 8)), none, .full⟩, ⟨(some 42), (.mov (.t 10)), none, .full⟩, ⟨(some 43), (.bin false .quo (.t 42) (.c (.int .i64 32))), none, .full⟩, ⟨(some 44), (.mov (.t 8)), none, .full⟩, ⟨(some 45), (.mov (.t 10)), none, .full⟩, ⟨(some 46), (.bin false .quo (.t 45) (.c (.int .i64 32))), none, .full⟩, ⟨(some 47), (.iaddr 1 (.t 44) (.t 46)), none, .full⟩, ⟨(some 48), (.load 1 false (.t 47)), none, .full⟩, ⟨(some 49), (.mov (.t 10)), none, .full⟩, ⟨(some 50), (.bin false .rem (.t 49) (.c (.int .i64 32))), none, .full⟩, ⟨(some 51), (.conv .u64 (.t 50)), none, .full⟩, ⟨(some 52), (.bin false .shl (.c (.int .u32 1)) (.t 51)), none, .full⟩, ⟨(some 53), (.bin false .or (.t 48) (.t 52)), none, .full⟩, ⟨(some 54), (.iaddr 1 (.t 41) (.t 43)), none, .full⟩, ⟨none, (.store 1 (.t 54) (.t 53)), none, .full⟩]))
 .skip))
 (.reg [⟨(some 55), (.mov (.t 9)), none, .full⟩, ⟨(some 56), (.call 84 0 [] [(.t 55)]), none, .full⟩, ⟨(some 9), (.mov (.t 56)), none, .full⟩])))
 (.reg [⟨(some 32), (.mov (.t 10)), none, .full⟩, ⟨(some 33), (.bin false .sub (.t 32) (.c (.int .i64 1))), none, .full⟩, ⟨(some 10), (.mov (.t 33)), none, .full⟩])))
def F60 : TFunc := ⟨2, 60, [(.tmp 4), (.tmp 5)],
 (.seq (.reg [⟨(some 4), (.mov (.c .nils)), none, .full⟩, ⟨(some 5), (.mov (.c .nils)), none, .full⟩])
 (.seq (.reg [⟨(some 11), (.mov (.t 0)), none, .full⟩, ⟨(some 12), (.call 59 0 [] [(.t 11)]), none, .full⟩, ⟨(some 13), (.app 1 false (.c .nils) (.t 12)), none, .full⟩, ⟨(some 6), (.mov (.t 13)), none, .full⟩])
 (.seq (.reg [⟨(some 14), (.mov (.t 0)), none, .full⟩, ⟨(some 15), (.call 82 0 [] [(.t 14)]), none, .full⟩, ⟨(some 16), (.mov (.t 1)), none, .full⟩, ⟨(some 17), (.call 82 0 [] [(.t 16)]), none, .full⟩, ⟨(some 18), (.bin false .sub (.t 15) (.t 17)), none, .full⟩, ⟨(some 7), (.mov (.t 18)), none, .full⟩])
 (.seq (.seq (.reg [⟨(some 19), (.mov (.t 7)), none, .full⟩, ⟨(some 20), (.bin false .lss (.t 19) (.c (.int .i64 0))), none, .full⟩])
 (.cond (.t 20)
 (.seq (.reg [⟨(some 21), (.mov (.t 6)), none, .full⟩, ⟨(some 4), (.mov (.c .nils)), none, .full⟩, ⟨(some 5), (.mov (.t 21)), none, .full⟩])
 .ret)
 .skip))
 (.seq (.reg [⟨(some 22), (.mov (.t 7)), none, .full⟩, ⟨(some 23), (.bin false .quo (.t 22) (.c (.int .i64 32))), none, .full⟩, ⟨(some 24), (.bin false .add (.t 23) (.c (.int .i64 1))), none, .full⟩, ⟨(some 25), (.mk 1 [(.int .u32 0)] (.t 24)), none, .full⟩, ⟨(some 8), (.mov (.t 25)), none, .full⟩])
 (.seq (.reg [⟨(some 26), (.mov (.t 1)), none, .full⟩, ⟨(some 27), (.mov (.t 7)), none, .full⟩, ⟨(some 28), (.call 83 0 [] [(.t 26), (.t 27)]), none, .full⟩, ⟨(some 9), (.mov (.t 28)), none, .full⟩])
 (.seq (.seq (.reg [⟨(some 29), (.mov (.t 7)), none, .full⟩, ⟨(some 10), (.mov (.t 29)), none, .full⟩])
 (.block 0 (.loop L60_0)))
 (.seq (.reg [⟨(some 57), (.mov (.t 8)), none, .full⟩, ⟨(some 58), (.call 59 0 [] [(.t 57)]), none, .full⟩, ⟨(some 59), (.mov (.t 6)), none, .full⟩, ⟨(some 4), (.mov (.t 58)), none, .full⟩, ⟨(some 5), (.mov (.t 59)), none, .full⟩])
 .ret))))))))⟩
theorem ok60 : ∃ fn hh, Try.prog.funcs[60]? = some fn ∧ (∀ vals w, (callFunc 60 vals).run Try.prog w = .ok (.enter 60 vals) w) ∧ comp Try.prog hh fn = some F60 :=
  ⟨_, hintOf [], Try.func60, Try.call60, by kernel_rfl⟩
def F61 : TFunc := ⟨2, 9, [(.cell 4 2 true)],
 (.seq (.reg [⟨(some 2), (.box 2 (.t 0)), none, .full⟩, ⟨(some 3), (.box 2 (.t 1)), none, .full⟩, ⟨(some 4), (.alloc [(.bool false), .nils]), none, .full⟩])
 (.seq (.reg [⟨(some 5), (.load 2 true (.t 2)), none, (.box 2)⟩, ⟨(some 6), (.load 2 true (.t 3)), none, (.box 3)⟩, ⟨(some 7), (.call 36 0 [] [(.t 6)]), none, (.rd [])⟩, ⟨(some 8), (.call 50 0 [] [(.t 5), (.t 7)]), none, (.rd [])⟩, ⟨none, (.store 2 (.t 4) (.t 8)), none, (.box 4)⟩])
 .ret))⟩
theorem ok61 : ∃ fn hh, Try.prog.funcs[61]? = some fn ∧ (∀ vals w, (callFunc 61 vals).run Try.prog w = .ok (.enter 61 vals) w) ∧ comp Try.prog hh fn = some F61 :=
  ⟨_, hintOf [], Try.func61, Try.call61, by kernel_rfl⟩
def F62 : TFunc := ⟨1, 11, [(.tmp 2)],
 (.seq (.reg [⟨(some 1), (.box 2 (.t 0)), none, .full⟩, ⟨(some 2), (.mov (.c (.int .i64 0))), none, .full⟩])
 (.seq (.block 0 (.seq (.reg [⟨(some 4), (.load 2 true (.t 1)), none, .full⟩, ⟨(some 5), (.call 70 0 [] [(.t 4)]), none, .full⟩, ⟨(some 6), (.len false (.t 5)), none, .full⟩, ⟨(some 7), (.bin false .eql (.t 6) (.c (.int .i64 0))), none, .full⟩, ⟨(some 3), (.mov (.t 7)), none, .full⟩])
 (.cond (.t 3)
 (.seq (.reg [⟨(some 2), (.mov (.c (.int .i64 0))), none, .full⟩])
 .ret)
 (.seq (.reg [⟨(some 9), (.faddr 0 (.t 1)), none, .full⟩, ⟨(some 10), (.load 1 false (.t 9)), none, .full⟩, ⟨(some 8), (.mov (.t 10)), none, .full⟩])
 (.cond (.t 8)
 (.seq (.reg [⟨(some 2), (.mov (.c (.int .i64 (-1)))), none, .full⟩])
 .ret)
 .skip)))))
 (.seq (.reg [⟨(some 2), (.mov (.c (.int .i64 1))), none, .full⟩])
 .ret)))⟩
theorem ok62 : ∃ fn hh, Try.prog.funcs[62]? = some fn ∧ (∀ vals w, (callFunc 62 vals).run Try.prog w = .ok (.enter 62 vals) w) ∧ comp Try.prog hh fn = some F62 :=
  ⟨_, hintOf [], Try.func62, Try.call62, by kernel_rfl⟩
def L63_0 : TCode := (.seq (.seq (.reg [⟨(some 5), (.mov (.t 1)), none, .full⟩, ⟨(some 6), (.len false (.t 5)), none, .full⟩, ⟨(some 7), (.bin false .gtr (.t 6) (.c (.int .i64 0))), none, .full⟩, ⟨(some 8), (.mov (.t 7)), none, .full⟩, ⟨(some 9), (.mov (.t 1)), (some (8, true)), .full⟩, ⟨(some 10), (.mov (.t 1)), (some (8, true)), .full⟩, ⟨(some 11), (.len false (.t 10)), (some (8, true)), .full⟩, ⟨(some 12), (.bin false .sub (.t 11) (.c (.int .i64 1))), (some (8, true)), .full⟩, ⟨(some 13), (.iaddr 1 (.t 9) (.t 12)), (some (8, true)), .full⟩, ⟨(some 14), (.load 1 false (.t 13)), (some (8, true)), .full⟩, ⟨(some 15), (.bin false .eql (.t 14) (.c (.int .u32 0))), (some (8, true)), .full⟩, ⟨(some 16), (.pick (.t 8) (.t 15) (.c (.bool false))), none, .full⟩])
 (.cond (.t 16)
 .skip
 (.exit 0)))
 (.block 1 (.reg [⟨(some 17), (.mov (.t 1)), none, .full⟩, ⟨(some 18), (.mov (.t 1)), none, .full⟩, ⟨(some 19), (.len false (.t 18)), none, .full⟩, ⟨(some 20), (.bin false .sub (.t 19) (.c (.int .i64 1))), none, .full⟩, ⟨(some 21), (.slice 1 false (.t 17) none (some (.t 20)) none), none, .full⟩, ⟨(some 1), (.mov (.t 21)), none, .full⟩])))
def F63 : TFunc := ⟨2, 34, [(.cell 4 2 true)],
 (.seq (.reg [⟨(some 4), (.alloc [(.bool false), .nils]), none, .full⟩])
 (.seq (.block 0 (.loop L63_0))
 (.seq (.seq (.reg [⟨(some 22), (.mov (.t 1)), none, .full⟩, ⟨(some 23), (.len false (.t 22)), none, .full⟩, ⟨(some 24), (.bin false .eql (.t 23) (.c (.int .i64 0))), none, .full⟩])
 (.cond (.t 24)
 (.seq (.reg [⟨(some 25), (.build [(.bool false), .nils] []), none, .full⟩, ⟨none, (.store 2 (.t 4) (.t 25)), none, .full⟩])
 .ret)
 .skip))
 (.seq (.reg [⟨(some 26), (.mov (.t 0)), none, .full⟩, ⟨(some 27), (.mov (.t 1)), none, .full⟩, ⟨(some 28), (.mov (.t 1)), none, .full⟩, ⟨(some 29), (.len false (.t 28)), none, .full⟩, ⟨(some 30), (.mov (.t 1)), none, .full⟩, ⟨(some 31), (.len false (.t 30)), none, .full⟩, ⟨(some 32), (.slice 1 false (.t 27) none (some (.t 29)) (some (.t 31))), none, .full⟩, ⟨(some 33), (.build [(.bool false), .nils] [(0, (1, (.t 26))), (1, (1, (.t 32)))]), none, .full⟩, ⟨none, (.store 2 (.t 4) (.t 33)), none, .full⟩])
 .ret))))⟩
theorem ok63 : ∃ fn hh, Try.prog.funcs[63]? = some fn ∧ (∀ vals w, (callFunc 63 vals).run Try.prog w = .ok (.enter 63 vals) w) ∧ comp Try.prog hh fn = some F63 :=
  ⟨_, hintOf [], Try.func63, Try.call63, by kernel_rfl⟩
def F64 : TFunc := ⟨0, 2, [(.cell 0 2 true)],
 (.seq (.reg [⟨(some 0), (.alloc [(.bool false), .nils]), none, .full⟩])
 (.seq (.reg [⟨(some 1), (.call 43 0 [] [(.c (.int .i64 1))]), none, .full⟩, ⟨none, (.store 2 (.t 0) (.t 1)), none, .full⟩])
 .ret))⟩
theorem ok64 : ∃ fn hh, Try.prog.funcs[64]? = some fn ∧ (∀ vals w, (callFunc 64 vals).run Try.prog w = .ok (.enter 64 vals) w) ∧ comp Try.prog hh fn = some F64 :=
  ⟨_, hintOf [], Try.func64, Try.call64, by kernel_rfl⟩
def F65 : TFunc := ⟨1, 10, [(.cell 2 2 true)],
 (.seq (.reg [⟨(some 1), (.box 2 (.t 0)), none, .full⟩, ⟨(some 2), (.alloc [(.bool false), .nils]), none, .full⟩])
 (.seq (.reg [⟨(some 3), (.faddr 0 (.t 1)), none, .none⟩, ⟨(some 4), (.load 1 false (.t 3)), none, (.box 1)⟩, ⟨(some 5), (.un .not (.t 4)), none, .none⟩, ⟨(some 6), (.load 2 true (.t 1)), none, (.box 1)⟩, ⟨(some 7), (.call 70 0 [] [(.t 6)]), none, (.rd [])⟩, ⟨(some 8), (.call 85 0 [] [(.t 7)]), none, (.rd [])⟩, ⟨(some 9), (.call 63 0 [] [(.t 5), (.t 8)]), none, (.rd [])⟩, ⟨none, (.store 2 (.t 2) (.t 9)), none, (.box 2)⟩])
 .ret))⟩
theorem ok65 : ∃ fn hh, Try.prog.funcs[65]? = some fn ∧ (∀ vals w, (callFunc 65 vals).run Try.prog w = .ok (.enter 65 vals) w) ∧ comp Try.prog hh fn = some F65 :=
  ⟨_, hintOf [], Try.func65, Try.call65, by kernel_rfl⟩
def L66_0 : TCode := (.seq (.seq (.reg [⟨(some 15), (.mov (.t 6)), none, .full⟩, ⟨(some 16), (.len false (.t 15)), none, .full⟩, ⟨(some 17), (.bin false .gtr (.t 16) (.c (.int .i64 0))), none, .full⟩])
 (.cond (.t 17)
 .skip
 (.exit 0)))
 (.block 1 (.seq (.reg [⟨(some 19), (.mov (.t 5)), none, .full⟩, ⟨(some 20), (.mov (.t 6)), none, .full⟩, ⟨(some 21), (.call 86 0 [] [(.t 19), (.t 20)]), none, .full⟩, ⟨(some 18), (.mov (.t 21)), none, .full⟩, ⟨(some 22), (.extract (.t 18) 0), none, .full⟩, ⟨(some 23), (.extract (.t 18) 1), none, .full⟩, ⟨(some 7), (.mov (.t 22)), none, .full⟩, ⟨(some 8), (.mov (.t 23)), none, .full⟩])
 (.reg [⟨(some 24), (.mov (.t 6)), none, .full⟩, ⟨(some 25), (.mov (.t 8)), none, .full⟩, ⟨(some 26), (.build [(.bool false), .nils] [(1, (1, (.t 25)))]), none, .full⟩, ⟨(some 27), (.call 70 0 [] [(.t 26)]), none, .full⟩, ⟨(some 5), (.mov (.t 24)), none, .full⟩, ⟨(some 6), (.mov (.t 27)), none, .full⟩]))))
def F66 : TFunc := ⟨2, 30, [(.cell 4 2 true)],
 (.seq (.reg [⟨(some 2), (.box 2 (.t 0)), none, .full⟩, ⟨(some 3), (.box 2 (.t 1)), none, .full⟩, ⟨(some 4), (.alloc [(.bool false), .nils]), none, .full⟩])
 (.seq (.reg [⟨(some 9), (.load 2 true (.t 2)), none, (.box 2)⟩, ⟨(some 10), (.call 70 0 [] [(.t 9)]), none, (.rd [])⟩, ⟨(some 11), (.call 85 0 [] [(.t 10)]), none, (.rd [])⟩, ⟨(some 12), (.load 2 true (.t 3)), none, (.box 3)⟩, ⟨(some 13), (.call 70 0 [] [(.t 12)]), none, (.rd [])⟩, ⟨(some 14), (.call 85 0 [] [(.t 13)]), none, (.rd [])⟩, ⟨(some 5), (.mov (.t 11)), none, .none⟩, ⟨(some 6), (.mov (.t 14)), none, .none⟩])
 (.seq (.block 0 (.loop L66_0))
 (.seq (.reg [⟨(some 28), (.mov (.t 5)), none, .full⟩, ⟨(some 29), (.call 63 0 [] [(.c (.bool false)), (.t 28)]), none, .full⟩, ⟨none, (.store 2 (.t 4) (.t 29)), none, .full⟩])
 .ret))))⟩
theorem ok66 : ∃ fn hh, Try.prog.funcs[66]? = some fn ∧ (∀ vals w, (callFunc 66 vals).run Try.prog w = .ok (.enter 66 vals) w) ∧ comp Try.prog hh fn = some F66 :=
  ⟨_, hintOf [], Try.func66, Try.call66, by kernel_rfl⟩
def F67 : TFunc := ⟨2, 50, [(.cell 4 2 true), (.cell 5 2 true), (.tmp 6)],
 (.seq (.reg [⟨(some 2), (.box 2 (.t 0)), none, .full⟩, ⟨(some 3), (.box 2 (.t 1)), none, .full⟩, ⟨(some 4), (.alloc [(.bool false), .nils]), none, .full⟩, ⟨(some 5), (.alloc [(.bool false), .nils]), none, .full⟩, ⟨(some 6), (.mov (.c (.int .i64 0))), none, .full⟩])
 (.seq (.seq (.reg [⟨(some 9), (.load 2 true (.t 3)), none, .full⟩, ⟨(some 10), (.call 62 0 [] [(.t 9)]), none, .full⟩, ⟨(some 11), (.bin false .eql (.t 10) (.c (.int .i64 0))), none, .full⟩])
 (.cond (.t 11)
 (.seq (.reg [⟨(some 12), (.build [(.bool false), .nils] []), none, .full⟩, ⟨(some 13), (.build [(.bool false), .nils] []), none, .full⟩, ⟨none, (.store 2 (.t 4) (.t 12)), none, .full⟩, ⟨none, (.store 2 (.t 5) (.t 13)), none, .full⟩, ⟨(some 6), (.mov (.c (.int .i64 11))), none, .full⟩])
 .ret)
 .skip))
 (.seq (.reg [⟨(some 15), (.load 2 true (.t 2)), none, (.box 2)⟩, ⟨(some 16), (.call 70 0 [] [(.t 15)]), none, (.rd [])⟩, ⟨(some 17), (.load 2 true (.t 3)), none, (.box 3)⟩, ⟨(some 18), (.call 70 0 [] [(.t 17)]), none, (.rd [])⟩, ⟨(some 19), (.call 86 0 [] [(.t 16), (.t 18)]), none, (.rd [])⟩, ⟨(some 14), (.mov (.t 19)), none, .none⟩, ⟨(some 20), (.extract (.t 14) 0), none, .none⟩, ⟨(some 21), (.extract (.t 14) 1), none, .none⟩, ⟨(some 7), (.mov (.t 20)), none, .none⟩, ⟨(some 8), (.mov (.t 21)), none, .none⟩])
 (.seq (.seq (.reg [⟨(some 22), (.faddr 0 (.t 2)), none, .full⟩, ⟨(some 23), (.load 1 false (.t 22)), none, .full⟩, ⟨(some 24), (.faddr 0 (.t 3)), none, .full⟩, ⟨(some 25), (.load 1 false (.t 24)), none, .full⟩, ⟨(some 26), (.bin true .eql (.t 23) (.t 25)), none, .full⟩])
 (.cond (.t 26)
 (.seq (.reg [⟨(some 27), (.mov (.t 7)), none, .none⟩, ⟨(some 28), (.call 63 0 [] [(.c (.bool false)), (.t 27)]), none, (.rd [])⟩, ⟨(some 29), (.faddr 0 (.t 3)), none, .none⟩, ⟨(some 30), (.load 1 false (.t 29)), none, (.box 3)⟩, ⟨(some 31), (.mov (.t 8)), none, .none⟩, ⟨(some 32), (.call 63 0 [] [(.t 30), (.t 31)]), none, (.rd [])⟩, ⟨none, (.store 2 (.t 4) (.t 28)), none, (.box 4)⟩, ⟨none, (.store 2 (.t 5) (.t 32)), none, (.box 5)⟩, ⟨(some 6), (.mov (.c (.int .i64 0))), none, .none⟩])
 .ret)
 .skip))
 (.seq (.reg [⟨(some 33), (.mov (.t 7)), none, .none⟩, ⟨(some 34), (.call 63 0 [] [(.c (.bool true)), (.t 33)]), none, (.rd [])⟩, ⟨(some 35), (.faddr 0 (.t 2)), none, .none⟩, ⟨(some 36), (.load 1 false (.t 35)), none, (.box 2)⟩, ⟨(some 37), (.mov (.t 8)), none, .none⟩, ⟨(some 38), (.call 63 0 [] [(.t 36), (.t 37)]), none, (.rd [])⟩, ⟨none, (.store 2 (.t 4) (.t 34)), none, (.box 4)⟩, ⟨none, (.store 2 (.t 5) (.t 38)), none, (.box 5)⟩])
 (.seq (.seq (.reg [⟨(some 39), (.load 2 true (.t 5)), none, .full⟩, ⟨(some 40), (.call 62 0 [] [(.t 39)]), none, .full⟩, ⟨(some 41), (.bin false .neq (.t 40) (.c (.int .i64 0))), none, .full⟩])
 (.cond (.t 41)
 (.reg [⟨(some 42), (.load 2 true (.t 4)), none, (.box 4)⟩, ⟨(some 43), (.call 43 0 [] [(.c (.int .i64 1))]), none, (.rd [])⟩, ⟨(some 44), (.call 87 0 [] [(.t 42), (.t 43)]), none, (.rd [])⟩, ⟨(some 45), (.load 2 true (.t 5)), none, (.box 5)⟩, ⟨(some 46), (.load 2 true (.t 3)), none, (.box 3)⟩, ⟨(some 47), (.call 47 0 [] [(.t 45), (.t 46)]), none, (.rd [])⟩, ⟨none, (.store 2 (.t 4) (.t 44)), none, (.box 4)⟩, ⟨none, (.store 2 (.t 5) (.t 47)), none, (.box 5)⟩])
 .skip))
 (.seq (.reg [⟨(some 48), (.load 2 true (.t 4)), none, (.box 4)⟩, ⟨(some 49), (.load 2 true (.t 5)), none, (.box 5)⟩, ⟨none, (.store 2 (.t 4) (.t 48)), none, (.box 4)⟩, ⟨none, (.store 2 (.t 5) (.t 49)), none, (.box 5)⟩, ⟨(some 6), (.mov (.c (.int .i64 0))), none, .none⟩])
 .ret)))))))⟩
theorem ok67 : ∃ fn hh, Try.prog.funcs[67]? = some fn ∧ (∀ vals w, (callFunc 67 vals).run Try.prog w = .ok (.enter 67 vals) w) ∧ comp Try.prog hh fn = some F67 :=
  ⟨_, hintOf [], Try.func67, Try.call67, by kernel_rfl⟩
def F68 : TFunc := ⟨3, 39, [(.cell 6 2 true)],
 (.seq (.reg [⟨(some 3), (.box 2 (.t 0)), none, .full⟩, ⟨(some 4), (.box 2 (.t 1)), none, .full⟩, ⟨(some 6), (.alloc [(.bool false), .nils]), none, .full⟩])
 (.seq (.reg [⟨(some 9), (.load 2 true (.t 3)), none, (.box 3)⟩, ⟨(some 10), (.call 70 0 [] [(.t 9)]), none, (.rd [])⟩, ⟨(some 11), (.load 2 true (.t 4)), none, (.box 4)⟩, ⟨(some 12), (.call 70 0 [] [(.t 11)]), none, (.rd [])⟩, ⟨(some 7), (.mov (.t 10)), none, .none⟩, ⟨(some 8), (.mov (.t 12)), none, .none⟩])
 (.seq (.block 0 (.seq (.reg [⟨(some 14), (.faddr 0 (.t 3)), none, .full⟩, ⟨(some 15), (.load 1 false (.t 14)), none, .full⟩, ⟨(some 16), (.mov (.t 2)), none, .full⟩, ⟨(some 17), (.bin true .eql (.t 15) (.t 16)), none, .full⟩, ⟨(some 13), (.mov (.t 17)), none, .full⟩])
 (.cond (.t 13)
 (.seq (.reg [⟨(some 18), (.mov (.t 2)), none, .full⟩, ⟨(some 19), (.mov (.t 7)), none, .full⟩, ⟨(some 20), (.mov (.t 8)), none, .full⟩, ⟨(some 21), (.call 88 0 [] [(.t 19), (.t 20)]), none, .full⟩, ⟨(some 22), (.call 63 0 [] [(.t 18), (.t 21)]), none, .full⟩, ⟨none, (.store 2 (.t 6) (.t 22)), none, .full⟩])
 .ret)
 (.seq (.reg [⟨(some 24), (.mov (.t 7)), none, .full⟩, ⟨(some 25), (.mov (.t 8)), none, .full⟩, ⟨(some 26), (.call 89 0 [] [(.t 24), (.t 25)]), none, .full⟩, ⟨(some 27), (.bin false .geq (.t 26) (.c (.int .i64 0))), none, .full⟩, ⟨(some 23), (.mov (.t 27)), none, .full⟩])
 (.cond (.t 23)
 (.seq (.reg [⟨(some 28), (.faddr 0 (.t 3)), none, .none⟩, ⟨(some 29), (.load 1 false (.t 28)), none, (.box 3)⟩, ⟨(some 30), (.mov (.t 7)), none, .none⟩, ⟨(some 31), (.mov (.t 8)), none, .none⟩, ⟨(some 32), (.call 90 0 [] [(.t 30), (.t 31)]), none, (.rd [])⟩, ⟨(some 33), (.call 63 0 [] [(.t 29), (.t 32)]), none, (.rd [])⟩, ⟨none, (.store 2 (.t 6) (.t 33)), none, (.box 6)⟩])
 .ret)
 .skip)))))
 (.seq (.reg [⟨(some 34), (.mov (.t 2)), none, .full⟩, ⟨(some 35), (.mov (.t 8)), none, .full⟩, ⟨(some 36), (.mov (.t 7)), none, .full⟩, ⟨(some 37), (.call 90 0 [] [(.t 35), (.t 36)]), none, .full⟩, ⟨(some 38), (.call 63 0 [] [(.t 34), (.t 37)]), none, .full⟩, ⟨none, (.store 2 (.t 6) (.t 38)), none, .full⟩])
 .ret))))⟩
theorem ok68 : ∃ fn hh, Try.prog.funcs[68]? = some fn ∧ (∀ vals w, (callFunc 68 vals).run Try.prog w = .ok (.enter 68 vals) w) ∧ comp Try.prog hh fn = some F68 :=
  ⟨_, hintOf [], Try.func68, Try.call68, by kernel_rfl⟩
def L69_1 : TCode := (.seq (.reg [⟨(some 27), (.bin false .lss (.t 26) (.t 25)), none, .full⟩])
 (.seq (.cond (.t 27)
 .skip
 (.exit 2))
 (.seq (.block 3 (.seq (.reg [⟨(some 28), (.mov (.t 26)), none, .full⟩, ⟨(some 29), (.iaddr 1 (.t 24) (.t 26)), none, .full⟩, ⟨(some 30), (.load 1 false (.t 29)), none, .full⟩, ⟨(some 9), (.mov (.t 28)), none, .full⟩, ⟨(some 10), (.mov (.t 30)), none, .full⟩])
 (.seq (.reg [⟨(some 31), (.mov (.t 8)), none, .full⟩, ⟨(some 32), (.mov (.t 7)), none, .full⟩, ⟨(some 33), (.conv .u64 (.t 32)), none, .full⟩, ⟨(some 34), (.mov (.t 10)), none, .full⟩, ⟨(some 35), (.conv .u64 (.t 34)), none, .full⟩, ⟨(some 36), (.bin false .mul (.t 33) (.t 35)), none, .full⟩, ⟨(some 37), (.mov (.t 5)), none, .full⟩, ⟨(some 38), (.mov (.t 6)), none, .full⟩, ⟨(some 39), (.mov (.t 9)), none, .full⟩, ⟨(some 40), (.bin false .add (.t 38) (.t 39)), none, .full⟩, ⟨(some 41), (.iaddr 1 (.t 37) (.t 40)), none, .full⟩, ⟨(some 42), (.load 1 false (.t 41)), none, .full⟩, ⟨(some 43), (.conv .u64 (.t 42)), none, .full⟩, ⟨(some 44), (.bin false .add (.t 36) (.t 43)), none, .full⟩, ⟨(some 45), (.bin false .add (.t 31) (.t 44)), none, .full⟩, ⟨(some 8), (.mov (.t 45)), none, .full⟩])
 (.seq (.reg [⟨(some 46), (.mov (.t 5)), none, .full⟩, ⟨(some 47), (.mov (.t 6)), none, .full⟩, ⟨(some 48), (.mov (.t 9)), none, .full⟩, ⟨(some 49), (.bin false .add (.t 47) (.t 48)), none, .full⟩, ⟨(some 50), (.mov (.t 8)), none, .full⟩, ⟨(some 51), (.conv .u32 (.t 50)), none, .full⟩, ⟨(some 52), (.iaddr 1 (.t 46) (.t 49)), none, .full⟩, ⟨none, (.store 1 (.t 52) (.t 51)), none, .full⟩])
 (.reg [⟨(some 53), (.mov (.t 8)), none, .full⟩, ⟨(some 54), (.bin false .shr (.t 53) (.c (.int .u64 32))), none, .full⟩, ⟨(some 8), (.mov (.t 54)), none, .full⟩])))))
 (.reg [⟨(some 55), (.bin false .add (.t 26) (.c (.int .i64 1))), none, .full⟩, ⟨(some 26), (.mov (.t 55)), none, .full⟩]))))
def L69_0 : TCode := (.seq (.reg [⟨(some 20), (.bin false .lss (.t 19) (.t 18)), none, .full⟩])
 (.seq (.cond (.t 20)
 .skip
 (.exit 0))
 (.seq (.block 1 (.seq (.reg [⟨(some 21), (.mov (.t 19)), none, .full⟩, ⟨(some 22), (.iaddr 1 (.t 17) (.t 19)), none, .full⟩, ⟨(some 23), (.load 1 false (.t 22)), none, .full⟩, ⟨(some 6), (.mov (.t 21)), none, .full⟩, ⟨(some 7), (.mov (.t 23)), none, .full⟩])
 (.seq (.reg [⟨(some 8), (.mov (.c (.int .u64 0))), none, .full⟩])
 (.seq (.seq (.reg [⟨(some 24), (.mov (.t 1)), none, .full⟩, ⟨(some 25), (.len false (.t 24)), none, .full⟩, ⟨(some 26), (.mov (.c (.int .i64 0))), none, .full⟩])
 (.block 2 (.loop L69_1)))
 (.reg [⟨(some 56), (.mov (.t 5)), none, .full⟩, ⟨(some 57), (.mov (.t 6)), none, .full⟩, ⟨(some 58), (.mov (.t 1)), none, .full⟩, ⟨(some 59), (.len false (.t 58)), none, .full⟩, ⟨(some 60), (.bin false .add (.t 57) (.t 59)), none, .full⟩, ⟨(some 61), (.mov (.t 8)), none, .full⟩, ⟨(some 62), (.conv .u32 (.t 61)), none, .full⟩, ⟨(some 63), (.iaddr 1 (.t 56) (.t 60)), none, .full⟩, ⟨none, (.store 1 (.t 63) (.t 62)), none, .full⟩])))))
 (.reg [⟨(some 64), (.bin false .add (.t 19) (.c (.int .i64 1))), none, .full⟩, ⟨(some 19), (.mov (.t 64)), none, .full⟩]))))
def F69 : TFunc := ⟨2, 66, [(.tmp 4)],
 (.seq (.reg [⟨(some 4), (.mov (.c .nils)), none, .full⟩])
 (.seq (.reg [⟨(some 11), (.mov (.t 0)), none, .full⟩, ⟨(some 12), (.len false (.t 11)), none, .full⟩, ⟨(some 13), (.mov (.t 1)), none, .full⟩, ⟨(some 14), (.len false (.t 13)), none, .full⟩, ⟨(some 15), (.bin false .add (.t 12) (.t 14)), none, .full⟩, ⟨(some 16), (.mk 1 [(.int .u32 0)] (.t 15)), none, .full⟩, ⟨(some 5), (.mov (.t 16)), none, .full⟩])
 (.seq (.seq (.reg [⟨(some 17), (.mov (.t 0)), none, .full⟩, ⟨(some 18), (.len false (.t 17)), none, .full⟩, ⟨(some 19), (.mov (.c (.int .i64 0))), none, .full⟩])
 (.block 0 (.loop L69_0)))
 (.seq (.reg [⟨(some 65), (.mov (.t 5)), none, .full⟩, ⟨(some 4), (.mov (.t 65)), none, .full⟩])
 .ret))))⟩
theorem ok69 : ∃ fn hh, Try.prog.funcs[69]? = some fn ∧ (∀ vals w, (callFunc 69 vals).run Try.prog w = .ok (.enter 69 vals) w) ∧ comp Try.prog hh fn = some F69 :=
  ⟨_, hintOf [], Try.func69, Try.call69, by kernel_rfl⟩
def L70_0 : TCode := (.seq (.seq (.reg [⟨(some 6), (.mov (.t 3)), none, .full⟩, ⟨(some 7), (.len false (.t 6)), none, .full⟩, ⟨(some 8), (.bin false .gtr (.t 7) (.c (.int .i64 0))), none, .full⟩, ⟨(some 9), (.mov (.t 8)), none, .full⟩, ⟨(some 10), (.mov (.t 3)), (some (9, true)), .full⟩, ⟨(some 11), (.mov (.t 3)), (some (9, true)), .full⟩, ⟨(some 12), (.len false (.t 11)), (some (9, true)), .full⟩, ⟨(some 13), (.bin false .sub (.t 12) (.c (.int .i64 1))), (some (9, true)), .full⟩, ⟨(some 14), (.iaddr 1 (.t 10) (.t 13)), (some (9, true)), .full⟩, ⟨(some 15), (.load 1 false (.t 14)), (some (9, true)), .full⟩, ⟨(some 16), (.bin false .eql (.t 15) (.c (.int .u32 0))), (some (9, true)), .full⟩, ⟨(some 17), (.pick (.t 9) (.t 16) (.c (.bool false))), none, .full⟩])
 (.cond (.t 17)
 .skip
 (.exit 0)))
 (.block 1 (.reg [⟨(some 18), (.mov (.t 3)), none, .full⟩, ⟨(some 19), (.mov (.t 3)), none, .full⟩, ⟨(some 20), (.len false (.t 19)), none, .full⟩, ⟨(some 21), (.bin false .sub (.t 20) (.c (.int .i64 1))), none, .full⟩, ⟨(some 22), (.slice 1 false (.t 18) none (some (.t 21)) none), none, .full⟩, ⟨(some 3), (.mov (.t 22)), none, .full⟩])))
def F70 : TFunc := ⟨1, 24, [(.tmp 2)],
 (.seq (.reg [⟨(some 1), (.box 2 (.t 0)), none, .full⟩, ⟨(some 2), (.mov (.c .nils)), none, .full⟩])
 (.seq (.reg [⟨(some 4), (.faddr 1 (.t 1)), none, .full⟩, ⟨(some 5), (.load 1 false (.t 4)), none, .full⟩, ⟨(some 3), (.mov (.t 5)), none, .full⟩])
 (.seq (.block 0 (.loop L70_0))
 (.seq (.reg [⟨(some 23), (.mov (.t 3)), none, .full⟩, ⟨(some 2), (.mov (.t 23)), none, .full⟩])
 .ret))))⟩
theorem ok70 : ∃ fn hh, Try.prog.funcs[70]? = some fn ∧ (∀ vals w, (callFunc 70 vals).run Try.prog w = .ok (.enter 70 vals) w) ∧ comp Try.prog hh fn = some F70 :=
  ⟨_, hintOf [], Try.func70, Try.call70, by kernel_rfl⟩
def L71_0 : TCode := (.seq (.seq (.reg [⟨(some 17), (.mov (.t 8)), none, .full⟩, ⟨(some 18), (.mov (.t 5)), none, .full⟩, ⟨(some 19), (.bin false .lss (.t 17) (.t 18)), none, .full⟩])
 (.cond (.t 19)
 .skip
 (.exit 0)))
 (.seq (.block 1 (.seq (.reg [⟨(some 22), (.mov (.t 7)), none, .full⟩, ⟨(some 23), (.mov (.t 0)), none, .full⟩, ⟨(some 24), (.mov (.t 8)), none, .full⟩, ⟨(some 25), (.call 91 0 [] [(.t 23), (.t 24)]), none, .full⟩, ⟨(some 26), (.bin false .add (.t 22) (.t 25)), none, .full⟩, ⟨(some 27), (.mov (.t 1)), none, .full⟩, ⟨(some 28), (.mov (.t 8)), none, .full⟩, ⟨(some 29), (.call 91 0 [] [(.t 27), (.t 28)]), none, .full⟩, ⟨(some 30), (.bin false .add (.t 26) (.t 29)), none, .full⟩, ⟨(some 7), (.mov (.t 30)), none, .full⟩])
 (.seq (.reg [⟨(some 31), (.mov (.t 6)), none, .full⟩, ⟨(some 32), (.mov (.t 8)), none, .full⟩, ⟨(some 33), (.mov (.t 7)), none, .full⟩, ⟨(some 34), (.conv .u32 (.t 33)), none, .full⟩, ⟨(some 35), (.iaddr 1 (.t 31) (.t 32)), none, .full⟩, ⟨none, (.store 1 (.t 35) (.t 34)), none, .full⟩])
 (.reg [⟨(some 36), (.mov (.t 7)), none, .full⟩, ⟨(some 37), (.bin false .shr (.t 36) (.c (.int .u64 32))), none, .full⟩, ⟨(some 7), (.mov (.t 37)), none, .full⟩]))))
 (.reg [⟨(some 20), (.mov (.t 8)), none, .full⟩, ⟨(some 21), (.bin false .add (.t 20) (.c (.int .i64 1))), none, .full⟩, ⟨(some 8), (.mov (.t 21)), none, .full⟩])))
def F71 : TFunc := ⟨2, 40, [(.tmp 4)],
 (.seq (.reg [⟨(some 4), (.mov (.c .nils)), none, .full⟩])
 (.seq (.reg [⟨(some 9), (.mov (.t 0)), none, .full⟩, ⟨(some 10), (.len false (.t 9)), none, .full⟩, ⟨(some 11), (.mov (.t 1)), none, .full⟩, ⟨(some 12), (.len false (.t 11)), none, .full⟩, ⟨(some 13), (.mxn true (.t 10) (.t 12)), none, .full⟩, ⟨(some 14), (.bin false .add (.t 13) (.c (.int .i64 1))), none, .full⟩, ⟨(some 5), (.mov (.t 14)), none, .full⟩])
 (.seq (.reg [⟨(some 15), (.mov (.t 5)), none, .full⟩, ⟨(some 16), (.mk 1 [(.int .u32 0)] (.t 15)), none, .full⟩, ⟨(some 6), (.mov (.t 16)), none, .full⟩])
 (.seq (.reg [⟨(some 7), (.mov (.c (.int .u64 0))), none, .full⟩])
 (.seq (.seq (.reg [⟨(some 8), (.mov (.c (.int .i64 0))), none, .full⟩])
 (.block 0 (.loop L71_0)))
 (.seq (.reg [⟨(some 38), (.mov (.t 6)), none, .full⟩, ⟨(some 39), (.call 59 0 [] [(.t 38)]), none, .full⟩, ⟨(some 4), (.mov (.t 39)), none, .full⟩])
 .ret))))))⟩
theorem ok71 : ∃ fn hh, Try.prog.funcs[71]? = some fn ∧ (∀ vals w, (callFunc 71 vals).run Try.prog w = .ok (.enter 71 vals) w) ∧ comp Try.prog hh fn = some F71 :=
  ⟨_, hintOf [], Try.func71, Try.call71, by kernel_rfl⟩
def L72_0 : TCode := (.seq (.seq (.reg [⟨(some 23), (.mov (.t 5)), none, .full⟩, ⟨(some 24), (.bin false .geq (.t 23) (.c (.int .i64 0))), none, .full⟩])
 (.cond (.t 24)
 .skip
 (.exit 0)))
 (.seq (.block 1 (.seq (.seq (.reg [⟨(some 27), (.mov (.t 0)), none, .none⟩, ⟨(some 28), (.mov (.t 5)), none, .none⟩, ⟨(some 29), (.iaddr 1 (.t 27) (.t 28)), none, .none⟩, ⟨(some 30), (.load 1 false (.t 29)), none, (.rd [])⟩, ⟨(some 31), (.mov (.t 1)), none, .none⟩, ⟨(some 32), (.mov (.t 5)), none, .none⟩, ⟨(some 33), (.iaddr 1 (.t 31) (.t 32)), none, .none⟩, ⟨(some 34), (.load 1 false (.t 33)), none, (.rd [])⟩, ⟨(some 35), (.bin false .lss (.t 30) (.t 34)), none, .none⟩])
 (.cond (.t 35)
 (.seq (.reg [⟨(some 4), (.mov (.c (.int .i64 (-1)))), none, .full⟩])
 .ret)
 .skip))
 (.seq (.reg [⟨(some 36), (.mov (.t 0)), none, .none⟩, ⟨(some 37), (.mov (.t 5)), none, .none⟩, ⟨(some 38), (.iaddr 1 (.t 36) (.t 37)), none, .none⟩, ⟨(some 39), (.load 1 false (.t 38)), none, (.rd [])⟩, ⟨(some 40), (.mov (.t 1)), none, .none⟩, ⟨(some 41), (.mov (.t 5)), none, .none⟩, ⟨(some 42), (.iaddr 1 (.t 40) (.t 41)), none, .none⟩, ⟨(some 43), (.load 1 false (.t 42)), none, (.rd [])⟩, ⟨(some 44), (.bin false .gtr (.t 39) (.t 43)), none, .none⟩])
 (.cond (.t 44)
 (.seq (.reg [⟨(some 4), (.mov (.c (.int .i64 1))), none, .full⟩])
 .ret)
 .skip))))
 (.reg [⟨(some 25), (.mov (.t 5)), none, .full⟩, ⟨(some 26), (.bin false .sub (.t 25) (.c (.int .i64 1))), none, .full⟩, ⟨(some 5), (.mov (.t 26)), none, .full⟩])))
def F72 : TFunc := ⟨2, 45, [(.tmp 4)],
 (.seq (.reg [⟨(some 4), (.mov (.c (.int .i64 0))), none, .full⟩])
 (.seq (.reg [⟨(some 6), (.mov (.t 0)), none, .full⟩, ⟨(some 7), (.call 59 0 [] [(.t 6)]), none, .full⟩, ⟨(some 8), (.mov (.t 1)), none, .full⟩, ⟨(some 9), (.call 59 0 [] [(.t 8)]), none, .full⟩, ⟨(some 0), (.mov (.t 7)), none, .full⟩, ⟨(some 1), (.mov (.t 9)), none, .full⟩])
 (.seq (.seq (.reg [⟨(some 10), (.mov (.t 0)), none, .full⟩, ⟨(some 11), (.len false (.t 10)), none, .full⟩, ⟨(some 12), (.mov (.t 1)), none, .full⟩, ⟨(some 13), (.len false (.t 12)), none, .full⟩, ⟨(some 14), (.bin false .neq (.t 11) (.t 13)), none, .full⟩])
 (.cond (.t 14)
 (.seq (.seq (.reg [⟨(some 15), (.mov (.t 0)), none, .full⟩, ⟨(some 16), (.len false (.t 15)), none, .full⟩, ⟨(some 17), (.mov (.t 1)), none, .full⟩, ⟨(some 18), (.len false (.t 17)), none, .full⟩, ⟨(some 19), (.bin false .lss (.t 16) (.t 18)), none, .full⟩])
 (.cond (.t 19)
 (.seq (.reg [⟨(some 4), (.mov (.c (.int .i64 (-1)))), none, .full⟩])
 .ret)
 .skip))
 (.seq (.reg [⟨(some 4), (.mov (.c (.int .i64 1))), none, .full⟩])
 .ret))
 .skip))
 (.seq (.seq (.reg [⟨(some 20), (.mov (.t 0)), none, .full⟩, ⟨(some 21), (.len false (.t 20)), none, .full⟩, ⟨(some 22), (.bin false .sub (.t 21) (.c (.int .i64 1))), none, .full⟩, ⟨(some 5), (.mov (.t 22)), none, .full⟩])
 (.block 0 (.loop L72_0)))
 (.seq (.reg [⟨(some 4), (.mov (.c (.int .i64 0))), none, .full⟩])
 .ret)))))⟩
theorem ok72 : ∃ fn hh, Try.prog.funcs[72]? = some fn ∧ (∀ vals w, (callFunc 72 vals).run Try.prog w = .ok (.enter 72 vals) w) ∧ comp Try.prog hh fn = some F72 :=
  ⟨_, hintOf [], Try.func72, Try.call72, by kernel_rfl⟩
def L73_0 : TCode := (.seq (.seq (.reg [⟨(some 12), (.mov (.t 7)), none, .full⟩, ⟨(some 13), (.mov (.t 0)), none, .full⟩, ⟨(some 14), (.len false (.t 13)), none, .full⟩, ⟨(some 15), (.bin false .lss (.t 12) (.t 14)), none, .full⟩])
 (.cond (.t 15)
 .skip
 (.exit 0)))
 (.seq (.block 1 (.seq (.reg [⟨(some 18), (.mov (.t 0)), none, .full⟩, ⟨(some 19), (.mov (.t 7)), none, .full⟩, ⟨(some 20), (.call 91 0 [] [(.t 18), (.t 19)]), none, .full⟩, ⟨(some 21), (.bin false .add (.t 20) (.c (.int .u64 4294967296))), none, .full⟩, ⟨(some 22), (.mov (.t 1)), none, .full⟩, ⟨(some 23), (.mov (.t 7)), none, .full⟩, ⟨(some 24), (.call 91 0 [] [(.t 22), (.t 23)]), none, .full⟩, ⟨(some 25), (.bin false .sub (.t 21) (.t 24)), none, .full⟩, ⟨(some 26), (.mov (.t 6)), none, .full⟩, ⟨(some 27), (.bin false .sub (.t 25) (.t 26)), none, .full⟩, ⟨(some 8), (.mov (.t 27)), none, .full⟩])
 (.seq (.reg [⟨(some 28), (.mov (.t 5)), none, .full⟩, ⟨(some 29), (.mov (.t 7)), none, .full⟩, ⟨(some 30), (.mov (.t 8)), none, .full⟩, ⟨(some 31), (.conv .u32 (.t 30)), none, .full⟩, ⟨(some 32), (.iaddr 1 (.t 28) (.t 29)), none, .full⟩, ⟨none, (.store 1 (.t 32) (.t 31)), none, .full⟩])
 (.reg [⟨(some 33), (.mov (.t 8)), none, .full⟩, ⟨(some 34), (.bin false .shr (.t 33) (.c (.int .u64 32))), none, .full⟩, ⟨(some 35), (.bin false .sub (.c (.int .u64 1)) (.t 34)), none, .full⟩, ⟨(some 6), (.mov (.t 35)), none, .full⟩]))))
 (.reg [⟨(some 16), (.mov (.t 7)), none, .full⟩, ⟨(some 17), (.bin false .add (.t 16) (.c (.int .i64 1))), none, .full⟩, ⟨(some 7), (.mov (.t 17)), none, .full⟩])))
def F73 : TFunc := ⟨2, 38, [(.tmp 4)],
 (.seq (.reg [⟨(some 4), (.mov (.c .nils)), none, .full⟩])
 (.seq (.reg [⟨(some 9), (.mov (.t 0)), none, .full⟩, ⟨(some 10), (.len false (.t 9)), none, .full⟩, ⟨(some 11), (.mk 1 [(.int .u32 0)] (.t 10)), none, .full⟩, ⟨(some 5), (.mov (.t 11)), none, .full⟩])
 (.seq (.reg [⟨(some 6), (.mov (.c (.int .u64 0))), none, .full⟩])
 (.seq (.seq (.reg [⟨(some 7), (.mov (.c (.int .i64 0))), none, .full⟩])
 (.block 0 (.loop L73_0)))
 (.seq (.reg [⟨(some 36), (.mov (.t 5)), none, .full⟩, ⟨(some 37), (.call 59 0 [] [(.t 36)]), none, .full⟩, ⟨(some 4), (.mov (.t 37)), none, .full⟩])
 .ret)))))⟩
theorem ok73 : ∃ fn hh, Try.prog.funcs[73]? = some fn ∧ (∀ vals w, (callFunc 73 vals).run Try.prog w = .ok (.enter 73 vals) w) ∧ comp Try.prog hh fn = some F73 :=
  ⟨_, hintOf [], Try.func73, Try.call73, by kernel_rfl⟩
def L74_0 : TCode := (.seq (.reg [⟨(some 16), (.bin false .lss (.t 15) (.t 14)), none, .full⟩])
 (.seq (.cond (.t 16)
 .skip
 (.exit 0))
 (.seq (.block 1 (.seq (.reg [⟨(some 17), (.mov (.t 15)), none, .full⟩, ⟨(some 6), (.mov (.t 17)), none, .full⟩])
 (.reg [⟨(some 18), (.faddr 0 (.t 5)), none, .full⟩, ⟨(some 19), (.load 1 false (.t 18)), none, .full⟩, ⟨(some 20), (.mov (.t 6)), none, .full⟩, ⟨(some 21), (.iaddr 1 (.t 19) (.t 20)), none, .full⟩, ⟨none, (.store 1 (.t 21) (.c (.int .i64 (-1)))), none, .full⟩])))
 (.reg [⟨(some 22), (.bin false .add (.t 15) (.c (.int .i64 1))), none, .full⟩, ⟨(some 15), (.mov (.t 22)), none, .full⟩]))))
def L74_1 : TCode := (.seq (.reg [⟨(some 26), (.bin false .lss (.t 25) (.t 24)), none, .full⟩])
 (.seq (.cond (.t 26)
 .skip
 (.exit 2))
 (.seq (.block 3 (.seq (.reg [⟨(some 27), (.mov (.t 25)), none, .full⟩, ⟨(some 28), (.iaddr 1 (.t 23) (.t 25)), none, .full⟩, ⟨(some 29), (.load 1 false (.t 28)), none, .full⟩, ⟨(some 7), (.mov (.t 27)), none, .full⟩, ⟨(some 8), (.mov (.t 29)), none, .full⟩])
 (.reg [⟨(some 30), (.faddr 0 (.t 5)), none, .full⟩, ⟨(some 31), (.load 1 false (.t 30)), none, .full⟩, ⟨(some 32), (.mov (.t 8)), none, .full⟩, ⟨(some 33), (.mov (.t 7)), none, .full⟩, ⟨(some 34), (.iaddr 1 (.t 31) (.t 32)), none, .full⟩, ⟨none, (.store 1 (.t 34) (.t 33)), none, .full⟩])))
 (.reg [⟨(some 35), (.bin false .add (.t 25) (.c (.int .i64 1))), none, .full⟩, ⟨(some 25), (.mov (.t 35)), none, .full⟩]))))
def F74 : TFunc := ⟨2, 37, [(.cell 4 1 true)],
 (.seq (.reg [⟨(some 4), (.alloc [.nils]), none, .full⟩])
 (.seq (.reg [⟨(some 9), (.mov (.t 0)), none, .full⟩, ⟨(some 10), (.mk 1 [(.int .i64 0)] (.t 9)), none, .full⟩, ⟨(some 11), (.build [.nils] [(0, (1, (.t 10)))]), none, .full⟩, ⟨(some 5), (.alloc [.nils]), none, .full⟩, ⟨none, (.store 1 (.t 5) (.t 11)), none, .full⟩])
 (.seq (.seq (.reg [⟨(some 12), (.faddr 0 (.t 5)), none, .full⟩, ⟨(some 13), (.load 1 false (.t 12)), none, .full⟩, ⟨(some 14), (.len false (.t 13)), none, .full⟩, ⟨(some 15), (.mov (.c (.int .i64 0))), none, .full⟩])
 (.block 0 (.loop L74_0)))
 (.seq (.seq (.reg [⟨(some 23), (.mov (.t 1)), none, .full⟩, ⟨(some 24), (.len false (.t 23)), none, .full⟩, ⟨(some 25), (.mov (.c (.int .i64 0))), none, .full⟩])
 (.block 2 (.loop L74_1)))
 (.seq (.reg [⟨(some 36), (.load 1 true (.t 5)), none, .full⟩, ⟨none, (.store 1 (.t 4) (.t 36)), none, .full⟩])
 .ret)))))⟩
theorem ok74 : ∃ fn hh, Try.prog.funcs[74]? = some fn ∧ (∀ vals w, (callFunc 74 vals).run Try.prog w = .ok (.enter 74 vals) w) ∧ comp Try.prog hh fn = some F74 :=
  ⟨_, hintOf [], Try.func74, Try.call74, by kernel_rfl⟩
def L75_1 : TCode := (.seq (.reg [⟨(some 18), (.bin false .lss (.t 17) (.t 16)), none, .full⟩])
 (.seq (.cond (.t 18)
 .skip
 (.exit 2))
 (.seq (.block 3 (.seq (.reg [⟨(some 19), (.iaddr 2 (.t 15) (.t 17)), none, .full⟩, ⟨(some 20), (.load 2 true (.t 19)), none, .full⟩, ⟨(some 7), (.alloc [(.int .i64 0), (.bool false)]), none, .full⟩, ⟨none, (.store 2 (.t 7) (.t 20)), none, .full⟩])
 (.seq (.reg [⟨(some 21), (.faddr 1 (.t 7)), none, .full⟩, ⟨(some 22), (.load 1 false (.t 21)), none, .full⟩, ⟨(some 23), (.un .not (.t 22)), none, .full⟩])
 (.cond (.t 23)
 (.reg [⟨(some 24), (.mov (.t 3)), none, .full⟩, ⟨(some 25), (.faddr 0 (.t 7)), none, .full⟩, ⟨(some 26), (.load 1 false (.t 25)), none, .full⟩, ⟨(some 27), (.bslice 1 [(.int .i64 0)] 1 [(0, (.t 26))]), none, .full⟩, ⟨(some 28), (.app 1 false (.t 24) (.t 27)), none, .full⟩, ⟨(some 3), (.mov (.t 28)), none, .full⟩])
 .skip))))
 (.reg [⟨(some 29), (.bin false .add (.t 17) (.c (.int .i64 1))), none, .full⟩, ⟨(some 17), (.mov (.t 29)), none, .full⟩]))))
def L75_0 : TCode := (.seq (.reg [⟨(some 12), (.bin false .lss (.t 11) (.t 10)), none, .full⟩])
 (.seq (.cond (.t 12)
 .skip
 (.exit 0))
 (.seq (.block 1 (.seq (.reg [⟨(some 13), (.iaddr 1 (.t 9) (.t 11)), none, .full⟩, ⟨(some 14), (.load 1 false (.t 13)), none, .full⟩, ⟨(some 5), (.mov (.t 14)), none, .full⟩])
 (.seq (.reg [⟨(some 15), (.mov (.t 5)), none, .full⟩, ⟨(some 16), (.len false (.t 15)), none, .full⟩, ⟨(some 17), (.mov (.c (.int .i64 0))), none, .full⟩])
 (.block 2 (.loop L75_1)))))
 (.reg [⟨(some 30), (.bin false .add (.t 11) (.c (.int .i64 1))), none, .full⟩, ⟨(some 11), (.mov (.t 30)), none, .full⟩]))))
def F75 : TFunc := ⟨1, 32, [(.tmp 2)],
 (.seq (.reg [⟨(some 1), (.box 2 (.t 0)), none, .full⟩, ⟨(some 2), (.mov (.c .nils)), none, .full⟩])
 (.seq (.reg [⟨(some 3), (.mov (.c .nils)), none, .full⟩])
 (.seq (.seq (.reg [⟨(some 8), (.faddr 1 (.t 1)), none, .full⟩, ⟨(some 9), (.load 1 false (.t 8)), none, .full⟩, ⟨(some 10), (.len false (.t 9)), none, .full⟩, ⟨(some 11), (.mov (.c (.int .i64 0))), none, .full⟩])
 (.block 0 (.loop L75_0)))
 (.seq (.reg [⟨(some 31), (.mov (.t 3)), none, .full⟩, ⟨(some 2), (.mov (.t 31)), none, .full⟩])
 .ret))))⟩
theorem ok75 : ∃ fn hh, Try.prog.funcs[75]? = some fn ∧ (∀ vals w, (callFunc 75 vals).run Try.prog w = .ok (.enter 75 vals) w) ∧ comp Try.prog hh fn = some F75 :=
  ⟨_, hintOf [], Try.func75, Try.call75, by kernel_rfl⟩
def F76 : TFunc := ⟨2, 19, [(.tmp 4)],
 (.seq (.reg [⟨(some 2), (.box 1 (.t 0)), none, .full⟩, ⟨(some 4), (.mov (.c (.int .i64 0))), none, .full⟩])
 (.seq (.seq (.reg [⟨(some 5), (.mov (.t 1)), none, .full⟩, ⟨(some 6), (.bin false .lss (.t 5) (.c (.int .i64 0))), none, .full⟩, ⟨(some 7), (.mov (.t 6)), none, .full⟩, ⟨(some 8), (.mov (.t 1)), (some (7, false)), .full⟩, ⟨(some 9), (.faddr 0 (.t 2)), (some (7, false)), .full⟩, ⟨(some 10), (.load 1 false (.t 9)), (some (7, false)), .full⟩, ⟨(some 11), (.len false (.t 10)), (some (7, false)), .full⟩, ⟨(some 12), (.bin false .geq (.t 8) (.t 11)), (some (7, false)), .full⟩, ⟨(some 13), (.pick (.t 7) (.c (.bool true)) (.t 12)), none, .full⟩])
 (.cond (.t 13)
 (.seq (.reg [⟨(some 4), (.mov (.c (.int .i64 (-1)))), none, .full⟩])
 .ret)
 .skip))
 (.seq (.reg [⟨(some 14), (.faddr 0 (.t 2)), none, .full⟩, ⟨(some 15), (.load 1 false (.t 14)), none, .full⟩, ⟨(some 16), (.mov (.t 1)), none, .full⟩, ⟨(some 17), (.iaddr 1 (.t 15) (.t 16)), none, .full⟩, ⟨(some 18), (.load 1 false (.t 17)), none, .full⟩, ⟨(some 4), (.mov (.t 18)), none, .full⟩])
 .ret)))⟩
theorem ok76 : ∃ fn hh, Try.prog.funcs[76]? = some fn ∧ (∀ vals w, (callFunc 76 vals).run Try.prog w = .ok (.enter 76 vals) w) ∧ comp Try.prog hh fn = some F76 :=
  ⟨_, hintOf [], Try.func76, Try.call76, by kernel_rfl⟩
def L77_0 : TCode := (.seq (.reg [⟨(some 11), (.bin false .lss (.t 10) (.t 9)), none, .full⟩])
 (.seq (.cond (.t 11)
 .skip
 (.exit 0))
 (.seq (.block 1 (.seq (.reg [⟨(some 12), (.mov (.t 10)), none, .full⟩, ⟨(some 13), (.iaddr 1 (.t 8) (.t 10)), none, .full⟩, ⟨(some 14), (.load 1 false (.t 13)), none, .full⟩, ⟨(some 5), (.mov (.t 12)), none, .full⟩, ⟨(some 6), (.mov (.t 14)), none, .full⟩])
 (.seq (.reg [⟨(some 15), (.load 1 true (.t 2)), none, .full⟩, ⟨(some 16), (.mov (.t 6)), none, .full⟩, ⟨(some 17), (.call 76 0 [] [(.t 15), (.t 16)]), none, .full⟩, ⟨(some 18), (.bin false .lss (.t 17) (.c (.int .i64 0))), none, .full⟩, ⟨(some 19), (.mov (.t 18)), none, .full⟩, ⟨(some 20), (.mov (.t 5)), (some (19, false)), .full⟩, ⟨(some 21), (.bin false .gtr (.t 20) (.c (.int .i64 0))), (some (19, false)), .full⟩, ⟨(some 22), (.mov (.t 21)), (some (19, false)), .full⟩, ⟨(some 23), (.mov (.t 6)), (some (22, true)), .full⟩, ⟨(some 24), (.faddr 0 (.t 3)), (some (22, true)), .full⟩, ⟨(some 25), (.load 1 false (.t 24)), (some (22, true)), .full⟩, ⟨(some 26), (.mov (.t 5)), (some (22, true)), .full⟩, ⟨(some 27), (.bin false .sub (.t 26) (.c (.int .i64 1))), (some (22, true)), .full⟩, ⟨(some 28), (.iaddr 1 (.t 25) (.t 27)), (some (22, true)), .full⟩, ⟨(some 29), (.load 1 false (.t 28)), (some (22, true)), .full⟩, ⟨(some 30), (.bin false .leq (.t 23) (.t 29)), (some (22, true)), .full⟩, ⟨(some 31), (.pick (.t 22) (.t 30) (.c (.bool false))), (some (19, false)), .full⟩, ⟨(some 32), (.pick (.t 19) (.c (.bool true)) (.t 31)), none, .full⟩])
 (.cond (.t 32)
 (.seq (.reg [⟨(some 4), (.mov (.c (.bool false))), none, .full⟩])
 .ret)
 .skip))))
 (.reg [⟨(some 33), (.bin false .add (.t 10) (.c (.int .i64 1))), none, .full⟩, ⟨(some 10), (.mov (.t 33)), none, .full⟩]))))
def F77 : TFunc := ⟨2, 45, [(.tmp 4)],
 (.seq (.reg [⟨(some 2), (.box 1 (.t 0)), none, .full⟩, ⟨(some 3), (.box 2 (.t 1)), none, .full⟩, ⟨(some 4), (.mov (.c (.bool false))), none, .full⟩])
 (.seq (.seq (.reg [⟨(some 7), (.faddr 0 (.t 3)), none, .full⟩, ⟨(some 8), (.load 1 false (.t 7)), none, .full⟩, ⟨(some 9), (.len false (.t 8)), none, .full⟩, ⟨(some 10), (.mov (.c (.int .i64 0))), none, .full⟩])
 (.block 0 (.loop L77_0)))
 (.seq (.reg [⟨(some 34), (.faddr 1 (.t 3)), none, .full⟩, ⟨(some 35), (.load 1 false (.t 34)), none, .full⟩, ⟨(some 36), (.bin false .geq (.t 35) (.c (.int .i64 2))), none, .full⟩, ⟨(some 37), (.mov (.t 36)), none, .full⟩, ⟨(some 38), (.faddr 1 (.t 3)), (some (37, true)), .full⟩, ⟨(some 39), (.load 1 false (.t 38)), (some (37, true)), .full⟩, ⟨(some 40), (.faddr 0 (.t 3)), (some (37, true)), .full⟩, ⟨(some 41), (.load 1 false (.t 40)), (some (37, true)), .full⟩, ⟨(some 42), (.len false (.t 41)), (some (37, true)), .full⟩, ⟨(some 43), (.bin false .leq (.t 39) (.t 42)), (some (37, true)), .full⟩, ⟨(some 44), (.pick (.t 37) (.t 43) (.c (.bool false))), none, .full⟩, ⟨(some 4), (.mov (.t 44)), none, .full⟩])
 .ret)))⟩
theorem ok77 : ∃ fn hh, Try.prog.funcs[77]? = some fn ∧ (∀ vals w, (callFunc 77 vals).run Try.prog w = .ok (.enter 77 vals) w) ∧ comp Try.prog hh fn = some F77 :=
  ⟨_, hintOf [], Try.func77, Try.call77, by kernel_rfl⟩
def L78_0 : TCode := (.seq (.reg [⟨(some 13), (.bin false .lss (.t 12) (.t 11)), none, .full⟩])
 (.seq (.cond (.t 13)
 .skip
 (.exit 0))
 (.seq (.block 1 (.seq (.reg [⟨(some 14), (.mov (.t 12)), none, .full⟩, ⟨(some 15), (.iaddr 1 (.t 10) (.t 12)), none, .full⟩, ⟨(some 16), (.load 1 false (.t 15)), none, .full⟩, ⟨(some 7), (.mov (.t 14)), none, .full⟩, ⟨(some 8), (.mov (.t 16)), none, .full⟩])
 (.seq (.seq (.reg [⟨(some 17), (.mov (.t 8)), none, .full⟩, ⟨(some 18), (.bin false .lss (.t 17) (.c (.int .i64 0))), none, .full⟩, ⟨(some 19), (.mov (.t 18)), none, .full⟩, ⟨(some 20), (.mov (.t 8)), (some (19, false)), .full⟩, ⟨(some 21), (.mov (.t 0)), (some (19, false)), .full⟩, ⟨(some 22), (.bin false .geq (.t 20) (.t 21)), (some (19, false)), .full⟩, ⟨(some 23), (.pick (.t 19) (.c (.bool true)) (.t 22)), none, .full⟩])
 (.cond (.t 23)
 (.seq (.reg [⟨(some 6), (.mov (.c (.int .i64 5))), none, .full⟩])
 .ret)
 .skip))
 (.seq (.reg [⟨(some 24), (.mov (.t 7)), none, .full⟩, ⟨(some 25), (.bin false .gtr (.t 24) (.c (.int .i64 0))), none, .full⟩, ⟨(some 26), (.mov (.t 25)), none, .full⟩, ⟨(some 27), (.mov (.t 8)), (some (26, true)), .full⟩, ⟨(some 28), (.faddr 0 (.t 4)), (some (26, true)), .full⟩, ⟨(some 29), (.load 1 false (.t 28)), (some (26, true)), .full⟩, ⟨(some 30), (.mov (.t 7)), (some (26, true)), .full⟩, ⟨(some 31), (.bin false .sub (.t 30) (.c (.int .i64 1))), (some (26, true)), .full⟩, ⟨(some 32), (.iaddr 1 (.t 29) (.t 31)), (some (26, true)), .full⟩, ⟨(some 33), (.load 1 false (.t 32)), (some (26, true)), .full⟩, ⟨(some 34), (.bin false .leq (.t 27) (.t 33)), (some (26, true)), .full⟩, ⟨(some 35), (.pick (.t 26) (.t 34) (.c (.bool false))), none, .full⟩])
 (.cond (.t 35)
 (.seq (.reg [⟨(some 6), (.mov (.c (.int .i64 8))), none, .full⟩])
 .ret)
 .skip)))))
 (.reg [⟨(some 36), (.bin false .add (.t 12) (.c (.int .i64 1))), none, .full⟩, ⟨(some 12), (.mov (.t 36)), none, .full⟩]))))
def F78 : TFunc := ⟨3, 53, [(.tmp 6)],
 (.seq (.reg [⟨(some 4), (.box 2 (.t 1)), none, .full⟩, ⟨(some 5), (.box 4 (.t 2)), none, .full⟩, ⟨(some 6), (.mov (.c (.int .i64 0))), none, .full⟩])
 (.seq (.seq (.reg [⟨(some 9), (.faddr 0 (.t 4)), none, .full⟩, ⟨(some 10), (.load 1 false (.t 9)), none, .full⟩, ⟨(some 11), (.len false (.t 10)), none, .full⟩, ⟨(some 12), (.mov (.c (.int .i64 0))), none, .full⟩])
 (.block 0 (.loop L78_0)))
 (.seq (.seq (.reg [⟨(some 37), (.faddr 1 (.t 4)), none, .full⟩, ⟨(some 38), (.load 1 false (.t 37)), none, .full⟩, ⟨(some 39), (.bin false .lss (.t 38) (.c (.int .i64 2))), none, .full⟩, ⟨(some 40), (.mov (.t 39)), none, .full⟩, ⟨(some 41), (.faddr 1 (.t 4)), (some (40, false)), .full⟩, ⟨(some 42), (.load 1 false (.t 41)), (some (40, false)), .full⟩, ⟨(some 43), (.faddr 0 (.t 4)), (some (40, false)), .full⟩, ⟨(some 44), (.load 1 false (.t 43)), (some (40, false)), .full⟩, ⟨(some 45), (.len false (.t 44)), (some (40, false)), .full⟩, ⟨(some 46), (.bin false .gtr (.t 42) (.t 45)), (some (40, false)), .full⟩, ⟨(some 47), (.pick (.t 40) (.c (.bool true)) (.t 46)), none, .full⟩, ⟨(some 48), (.mov (.t 47)), none, .full⟩, ⟨(some 49), (.load 4 true (.t 5)), (some (48, false)), .full⟩, ⟨(some 50), (.call 92 0 [] [(.t 49)]), (some (48, false)), .full⟩, ⟨(some 51), (.bin false .gtr (.t 50) (.c (.int .i64 0))), (some (48, false)), .full⟩, ⟨(some 52), (.pick (.t 48) (.c (.bool true)) (.t 51)), none, .full⟩])
 (.cond (.t 52)
 (.seq (.reg [⟨(some 6), (.mov (.c (.int .i64 5))), none, .full⟩])
 .ret)
 .skip))
 (.seq (.reg [⟨(some 6), (.mov (.c (.int .i64 0))), none, .full⟩])
 .ret))))⟩
theorem ok78 : ∃ fn hh, Try.prog.funcs[78]? = some fn ∧ (∀ vals w, (callFunc 78 vals).run Try.prog w = .ok (.enter 78 vals) w) ∧ comp Try.prog hh fn = some F78 :=
  ⟨_, hintOf [], Try.func78, Try.call78, by kernel_rfl⟩
def F79 : TFunc := ⟨2, 26, [(.tmp 4)],
 (.seq (.reg [⟨(some 2), (.box 4 (.t 0)), none, .full⟩, ⟨(some 3), (.box 4 (.t 1)), none, .full⟩, ⟨(some 4), (.mov (.c (.int .i64 0))), none, .full⟩])
 (.seq (.reg [⟨(some 10), (.load 4 true (.t 2)), none, .full⟩, ⟨(some 11), (.call 45 0 [] [(.t 10)]), none, .full⟩, ⟨(some 9), (.mov (.t 11)), none, .full⟩, ⟨(some 12), (.extract (.t 9) 0), none, .full⟩, ⟨(some 13), (.extract (.t 9) 1), none, .full⟩, ⟨(some 5), (.alloc [(.bool false), .nils]), none, .full⟩, ⟨(some 6), (.alloc [(.bool false), .nils]), none, .full⟩, ⟨none, (.store 2 (.t 5) (.t 12)), none, .full⟩, ⟨none, (.store 2 (.t 6) (.t 13)), none, .full⟩])
 (.seq (.reg [⟨(some 15), (.load 4 true (.t 3)), none, .full⟩, ⟨(some 16), (.call 45 0 [] [(.t 15)]), none, .full⟩, ⟨(some 14), (.mov (.t 16)), none, .full⟩, ⟨(some 17), (.extract (.t 14) 0), none, .full⟩, ⟨(some 18), (.extract (.t 14) 1), none, .full⟩, ⟨(some 7), (.alloc [(.bool false), .nils]), none, .full⟩, ⟨(some 8), (.alloc [(.bool false), .nils]), none, .full⟩, ⟨none, (.store 2 (.t 7) (.t 17)), none, .full⟩, ⟨none, (.store 2 (.t 8) (.t 18)), none, .full⟩])
 (.seq (.reg [⟨(some 19), (.load 2 true (.t 5)), none, (.box 5)⟩, ⟨(some 20), (.load 2 true (.t 8)), none, (.box 8)⟩, ⟨(some 21), (.call 48 0 [] [(.t 19), (.t 20)]), none, (.rd [])⟩, ⟨(some 22), (.load 2 true (.t 7)), none, (.box 7)⟩, ⟨(some 23), (.load 2 true (.t 6)), none, (.box 6)⟩, ⟨(some 24), (.call 48 0 [] [(.t 22), (.t 23)]), none, (.rd [])⟩, ⟨(some 25), (.call 93 0 [] [(.t 21), (.t 24)]), none, (.rd [])⟩, ⟨(some 4), (.mov (.t 25)), none, .none⟩])
 .ret))))⟩
theorem ok79 : ∃ fn hh, Try.prog.funcs[79]? = some fn ∧ (∀ vals w, (callFunc 79 vals).run Try.prog w = .ok (.enter 79 vals) w) ∧ comp Try.prog hh fn = some F79 :=
  ⟨_, hintOf [], Try.func79, Try.call79, by kernel_rfl⟩
def F80 : TFunc := ⟨1, 21, [(.cell 2 2 true)],
 (.seq (.reg [⟨(some 1), (.box 4 (.t 0)), none, .full⟩, ⟨(some 2), (.alloc [(.bool false), .nils]), none, .full⟩])
 (.seq (.reg [⟨(some 9), (.load 4 true (.t 1)), none, .full⟩, ⟨(some 10), (.call 45 0 [] [(.t 9)]), none, .full⟩, ⟨(some 8), (.mov (.t 10)), none, .full⟩, ⟨(some 11), (.extract (.t 8) 0), none, .full⟩, ⟨(some 12), (.extract (.t 8) 1), none, .full⟩, ⟨(some 3), (.alloc [(.bool false), .nils]), none, .full⟩, ⟨(some 4), (.alloc [(.bool false), .nils]), none, .full⟩, ⟨none, (.store 2 (.t 3) (.t 11)), none, .full⟩, ⟨none, (.store 2 (.t 4) (.t 12)), none, .full⟩])
 (.seq (.reg [⟨(some 14), (.load 2 true (.t 3)), none, .full⟩, ⟨(some 15), (.load 2 true (.t 4)), none, .full⟩, ⟨(some 16), (.call 67 0 [] [(.t 14), (.t 15)]), none, .full⟩, ⟨(some 13), (.mov (.t 16)), none, .full⟩, ⟨(some 17), (.extract (.t 13) 0), none, .full⟩, ⟨(some 18), (.extract (.t 13) 1), none, .full⟩, ⟨(some 19), (.extract (.t 13) 2), none, .full⟩, ⟨(some 5), (.alloc [(.bool false), .nils]), none, .full⟩, ⟨(some 6), (.alloc [(.bool false), .nils]), none, .full⟩, ⟨none, (.store 2 (.t 5) (.t 17)), none, .full⟩, ⟨none, (.store 2 (.t 6) (.t 18)), none, .full⟩, ⟨(some 7), (.mov (.t 19)), none, .full⟩])
 (.seq (.reg [⟨(some 20), (.load 2 true (.t 5)), none, .full⟩, ⟨none, (.store 2 (.t 2) (.t 20)), none, .full⟩])
 .ret))))⟩
theorem ok80 : ∃ fn hh, Try.prog.funcs[80]? = some fn ∧ (∀ vals w, (callFunc 80 vals).run Try.prog w = .ok (.enter 80 vals) w) ∧ comp Try.prog hh fn = some F80 :=
  ⟨_, hintOf [], Try.func80, Try.call80, by kernel_rfl⟩
def F81 : TFunc := ⟨1, 14, [(.cell 2 4 true)],
 (.seq (.reg [⟨(some 1), (.box 4 (.t 0)), none, .full⟩, ⟨(some 2), (.alloc [(.bool false), .nils, (.bool false), .nils]), none, .full⟩])
 (.seq (.reg [⟨(some 6), (.load 4 true (.t 1)), none, .full⟩, ⟨(some 7), (.call 45 0 [] [(.t 6)]), none, .full⟩, ⟨(some 5), (.mov (.t 7)), none, .full⟩, ⟨(some 8), (.extract (.t 5) 0), none, .full⟩, ⟨(some 9), (.extract (.t 5) 1), none, .full⟩, ⟨(some 3), (.alloc [(.bool false), .nils]), none, .full⟩, ⟨(some 4), (.alloc [(.bool false), .nils]), none, .full⟩, ⟨none, (.store 2 (.t 3) (.t 8)), none, .full⟩, ⟨none, (.store 2 (.t 4) (.t 9)), none, .full⟩])
 (.seq (.reg [⟨(some 10), (.load 2 true (.t 3)), none, (.box 3)⟩, ⟨(some 11), (.call 65 0 [] [(.t 10)]), none, (.rd [])⟩, ⟨(some 12), (.load 2 true (.t 4)), none, (.box 4)⟩, ⟨(some 13), (.call 46 0 [] [(.t 11), (.t 12)]), none, (.rd [])⟩, ⟨none, (.store 4 (.t 2) (.t 13)), none, (.box 2)⟩])
 .ret)))⟩
theorem ok81 : ∃ fn hh, Try.prog.funcs[81]? = some fn ∧ (∀ vals w, (callFunc 81 vals).run Try.prog w = .ok (.enter 81 vals) w) ∧ comp Try.prog hh fn = some F81 :=
  ⟨_, hintOf [], Try.func81, Try.call81, by kernel_rfl⟩
def L82_0 : TCode := (.seq (.seq (.reg [⟨(some 20), (.mov (.t 4)), none, .full⟩, ⟨(some 21), (.bin false .gtr (.t 20) (.c (.int .u32 0))), none, .full⟩])
 (.cond (.t 21)
 .skip
 (.exit 0)))
 (.seq (.block 1 (.reg [⟨(some 24), (.mov (.t 3)), none, .full⟩, ⟨(some 25), (.bin false .add (.t 24) (.c (.int .i64 1))), none, .full⟩, ⟨(some 3), (.mov (.t 25)), none, .full⟩]))
 (.reg [⟨(some 22), (.mov (.t 4)), none, .full⟩, ⟨(some 23), (.bin false .shr (.t 22) (.c (.int .u64 1))), none, .full⟩, ⟨(some 4), (.mov (.t 23)), none, .full⟩])))
def F82 : TFunc := ⟨1, 27, [(.tmp 2)],
 (.seq (.reg [⟨(some 2), (.mov (.c (.int .i64 0))), none, .full⟩])
 (.seq (.reg [⟨(some 5), (.mov (.t 0)), none, .full⟩, ⟨(some 6), (.call 59 0 [] [(.t 5)]), none, .full⟩, ⟨(some 0), (.mov (.t 6)), none, .full⟩])
 (.seq (.seq (.reg [⟨(some 7), (.mov (.t 0)), none, .full⟩, ⟨(some 8), (.len false (.t 7)), none, .full⟩, ⟨(some 9), (.bin false .eql (.t 8) (.c (.int .i64 0))), none, .full⟩])
 (.cond (.t 9)
 (.seq (.reg [⟨(some 2), (.mov (.c (.int .i64 0))), none, .full⟩])
 .ret)
 .skip))
 (.seq (.reg [⟨(some 10), (.mov (.t 0)), none, .full⟩, ⟨(some 11), (.len false (.t 10)), none, .full⟩, ⟨(some 12), (.bin false .sub (.t 11) (.c (.int .i64 1))), none, .full⟩, ⟨(some 13), (.bin false .mul (.c (.int .i64 32)) (.t 12)), none, .full⟩, ⟨(some 3), (.mov (.t 13)), none, .full⟩])
 (.seq (.seq (.reg [⟨(some 14), (.mov (.t 0)), none, .full⟩, ⟨(some 15), (.mov (.t 0)), none, .full⟩, ⟨(some 16), (.len false (.t 15)), none, .full⟩, ⟨(some 17), (.bin false .sub (.t 16) (.c (.int .i64 1))), none, .full⟩, ⟨(some 18), (.iaddr 1 (.t 14) (.t 17)), none, .full⟩, ⟨(some 19), (.load 1 false (.t 18)), none, .full⟩, ⟨(some 4), (.mov (.t 19)), none, .full⟩])
 (.block 0 (.loop L82_0)))
 (.seq (.reg [⟨(some 26), (.mov (.t 3)), none, .full⟩, ⟨(some 2), (.mov (.t 26)), none, .full⟩])
 .ret))))))⟩
theorem ok82 : ∃ fn hh, Try.prog.funcs[82]? = some fn ∧ (∀ vals w, (callFunc 82 vals).run Try.prog w = .ok (.enter 82 vals) w) ∧ comp Try.prog hh fn = some F82 :=
  ⟨_, hintOf [], Try.func82, Try.call82, by kernel_rfl⟩
def L83_0 : TCode := (.seq (.seq (.reg [⟨(some 15), (.mov (.t 6)), none, .full⟩, ⟨(some 16), (.mov (.t 0)), none, .full⟩, ⟨(some 17), (.len false (.t 16)), none, .full⟩, ⟨(some 18), (.bin false .lss (.t 15) (.t 17)), none, .full⟩])
 (.cond (.t 18)
 .skip
 (.exit 0)))
 (.seq (.block 1 (.seq (.reg [⟨(some 21), (.mov (.t 0)), none, .full⟩, ⟨(some 22), (.mov (.t 6)), none, .full⟩, ⟨(some 23), (.iaddr 1 (.t 21) (.t 22)), none, .full⟩, ⟨(some 24), (.load 1 false (.t 23)), none, .full⟩, ⟨(some 25), (.conv .u64 (.t 24)), none, .full⟩, ⟨(some 26), (.mov (.t 1)), none, .full⟩, ⟨(some 27), (.bin false .rem (.t 26) (.c (.int .i64 32))), none, .full⟩, ⟨(some 28), (.conv .u64 (.t 27)), none, .full⟩, ⟨(some 29), (.bin false .shl (.t 25) (.t 28)), none, .full⟩, ⟨(some 7), (.mov (.t 29)), none, .full⟩])
 (.seq (.reg [⟨(some 30), (.mov (.t 5)), none, .full⟩, ⟨(some 31), (.mov (.t 6)), none, .full⟩, ⟨(some 32), (.mov (.t 1)), none, .full⟩, ⟨(some 33), (.bin false .quo (.t 32) (.c (.int .i64 32))), none, .full⟩, ⟨(some 34), (.bin false .add (.t 31) (.t 33)), none, .full⟩, ⟨(some 35), (.mov (.t 5)), none, .full⟩, ⟨(some 36), (.mov (.t 6)), none, .full⟩, ⟨(some 37), (.mov (.t 1)), none, .full⟩, ⟨(some 38), (.bin false .quo (.t 37) (.c (.int .i64 32))), none, .full⟩, ⟨(some 39), (.bin false .add (.t 36) (.t 38)), none, .full⟩, ⟨(some 40), (.iaddr 1 (.t 35) (.t 39)), none, .full⟩, ⟨(some 41), (.load 1 false (.t 40)), none, .full⟩, ⟨(some 42), (.mov (.t 7)), none, .full⟩, ⟨(some 43), (.conv .u32 (.t 42)), none, .full⟩, ⟨(some 44), (.bin false .or (.t 41) (.t 43)), none, .full⟩, ⟨(some 45), (.iaddr 1 (.t 30) (.t 34)), none, .full⟩, ⟨none, (.store 1 (.t 45) (.t 44)), none, .full⟩])
 (.reg [⟨(some 46), (.mov (.t 5)), none, .full⟩, ⟨(some 47), (.mov (.t 6)), none, .full⟩, ⟨(some 48), (.mov (.t 1)), none, .full⟩, ⟨(some 49), (.bin false .quo (.t 48) (.c (.int .i64 32))), none, .full⟩, ⟨(some 50), (.bin false .add (.t 47) (.t 49)), none, .full⟩, ⟨(some 51), (.bin false .add (.t 50) (.c (.int .i64 1))), none, .full⟩, ⟨(some 52), (.mov (.t 7)), none, .full⟩, ⟨(some 53), (.bin false .shr (.t 52) (.c (.int .u64 32))), none, .full⟩, ⟨(some 54), (.conv .u32 (.t 53)), none, .full⟩, ⟨(some 55), (.iaddr 1 (.t 46) (.t 51)), none, .full⟩, ⟨none, (.store 1 (.t 55) (.t 54)), none, .full⟩]))))
 (.reg [⟨(some 19), (.mov (.t 6)), none, .full⟩, ⟨(some 20), (.bin false .add (.t 19) (.c (.int .i64 1))), none, .full⟩, ⟨(some 6), (.mov (.t 20)), none, .full⟩])))
def F83 : TFunc := ⟨2, 58, [(.tmp 4)],
 (.seq (.reg [⟨(some 4), (.mov (.c .nils)), none, .full⟩])
 (.seq (.reg [⟨(some 8), (.mov (.t 0)), none, .full⟩, ⟨(some 9), (.len false (.t 8)), none, .full⟩, ⟨(some 10), (.mov (.t 1)), none, .full⟩, ⟨(some 11), (.bin false .quo (.t 10) (.c (.int .i64 32))), none, .full⟩, ⟨(some 12), (.bin false .add (.t 9) (.t 11)), none, .full⟩, ⟨(some 13), (.bin false .add (.t 12) (.c (.int .i64 1))), none, .full⟩, ⟨(some 14), (.mk 1 [(.int .u32 0)] (.t 13)), none, .full⟩, ⟨(some 5), (.mov (.t 14)), none, .full⟩])
 (.seq (.seq (.reg [⟨(some 6), (.mov (.c (.int .i64 0))), none, .full⟩])
 (.block 0 (.loop L83_0)))
 (.seq (.reg [⟨(some 56), (.mov (.t 5)), none, .full⟩, ⟨(some 57), (.call 59 0 [] [(.t 56)]), none, .full⟩, ⟨(some 4), (.mov (.t 57)), none, .full⟩])
 .ret))))⟩
theorem ok83 : ∃ fn hh, Try.prog.funcs[83]? = some fn ∧ (∀ vals w, (callFunc 83 vals).run Try.prog w = .ok (.enter 83 vals) w) ∧ comp Try.prog hh fn = some F83 :=
  ⟨_, hintOf [], Try.func83, Try.call83, by kernel_rfl⟩
def L84_0 : TCode := (.seq (.seq (.reg [⟨(some 8), (.mov (.t 4)), none, .full⟩, ⟨(some 9), (.mov (.t 0)), none, .full⟩, ⟨(some 10), (.len false (.t 9)), none, .full⟩, ⟨(some 11), (.bin false .lss (.t 8) (.t 10)), none, .full⟩])
 (.cond (.t 11)
 .skip
 (.exit 0)))
 (.seq (.block 1 (.reg [⟨(some 14), (.mov (.t 3)), none, .none⟩, ⟨(some 15), (.mov (.t 4)), none, .none⟩, ⟨(some 16), (.mov (.t 0)), none, .none⟩, ⟨(some 17), (.mov (.t 4)), none, .none⟩, ⟨(some 18), (.iaddr 1 (.t 16) (.t 17)), none, .none⟩, ⟨(some 19), (.load 1 false (.t 18)), none, (.rd [])⟩, ⟨(some 20), (.bin false .shr (.t 19) (.c (.int .u64 1))), none, .none⟩, ⟨(some 21), (.mov (.t 0)), none, .none⟩, ⟨(some 22), (.mov (.t 4)), none, .none⟩, ⟨(some 23), (.bin false .add (.t 22) (.c (.int .i64 1))), none, .none⟩, ⟨(some 24), (.call 91 0 [] [(.t 21), (.t 23)]), none, (.rd [])⟩, ⟨(some 25), (.bin false .shl (.t 24) (.c (.int .u64 31))), none, .none⟩, ⟨(some 26), (.conv .u32 (.t 25)), none, .none⟩, ⟨(some 27), (.bin false .or (.t 20) (.t 26)), none, .none⟩, ⟨(some 28), (.iaddr 1 (.t 14) (.t 15)), none, .none⟩, ⟨none, (.store 1 (.t 28) (.t 27)), none, .full⟩]))
 (.reg [⟨(some 12), (.mov (.t 4)), none, .full⟩, ⟨(some 13), (.bin false .add (.t 12) (.c (.int .i64 1))), none, .full⟩, ⟨(some 4), (.mov (.t 13)), none, .full⟩])))
def F84 : TFunc := ⟨1, 31, [(.tmp 2)],
 (.seq (.reg [⟨(some 2), (.mov (.c .nils)), none, .full⟩])
 (.seq (.reg [⟨(some 5), (.mov (.t 0)), none, .full⟩, ⟨(some 6), (.len false (.t 5)), none, .full⟩, ⟨(some 7), (.mk 1 [(.int .u32 0)] (.t 6)), none, .full⟩, ⟨(some 3), (.mov (.t 7)), none, .full⟩])
 (.seq (.seq (.reg [⟨(some 4), (.mov (.c (.int .i64 0))), none, .full⟩])
 (.block 0 (.loop L84_0)))
 (.seq (.reg [⟨(some 29), (.mov (.t 3)), none, .full⟩, ⟨(some 30), (.call 59 0 [] [(.t 29)]), none, .full⟩, ⟨(some 2), (.mov (.t 30)), none, .full⟩])
 .ret))))⟩
theorem ok84 : ∃ fn hh, Try.prog.funcs[84]? = some fn ∧ (∀ vals w, (callFunc 84 vals).run Try.prog w = .ok (.enter 84 vals) w) ∧ comp Try.prog hh fn = some F84 :=
  ⟨_, hintOf [], Try.func84, Try.call84, by kernel_rfl⟩
def F85 : TFunc := ⟨1, 5, [(.tmp 2)],
 (.seq (.reg [⟨(some 2), (.mov (.c .nils)), none, .full⟩])
 (.seq (.reg [⟨(some 3), (.mov (.t 0)), none, .full⟩, ⟨(some 4), (.app 1 false (.c .nils) (.t 3)), none, .full⟩, ⟨(some 2), (.mov (.t 4)), none, .full⟩])
 .ret))⟩
theorem ok85 : ∃ fn hh, Try.prog.funcs[85]? = some fn ∧ (∀ vals w, (callFunc 85 vals).run Try.prog w = .ok (.enter 85 vals) w) ∧ comp Try.prog hh fn = some F85 :=
  ⟨_, hintOf [], Try.func85, Try.call85, by kernel_rfl⟩
def L86_0 : TCode := (.seq (.seq (.reg [⟨(some 59), (.mov (.t 12)), none, .full⟩, ⟨(some 60), (.bin false .geq (.t 59) (.c (.int .i64 0))), none, .full⟩])
 (.cond (.t 60)
 .skip
 (.exit 0)))
 (.seq (.block 1 (.seq (.reg [⟨(some 63), (.mov (.t 12)), none, .full⟩, ⟨(some 64), (.mov (.t 10)), none, .full⟩, ⟨(some 65), (.len false (.t 64)), none, .full⟩, ⟨(some 66), (.bin false .add (.t 63) (.t 65)), none, .full⟩, ⟨(some 13), (.mov (.t 66)), none, .full⟩])
 (.reg [⟨(some 67), (.mov (.t 11)), none, .none⟩, ⟨(some 68), (.mov (.t 12)), none, .none⟩, ⟨(some 69), (.mov (.t 9)), none, .none⟩, ⟨(some 70), (.mov (.t 10)), none, .none⟩, ⟨(some 71), (.mov (.t 12)), none, .none⟩, ⟨(some 72), (.mov (.t 9)), none, .none⟩, ⟨(some 73), (.mov (.t 13)), none, .none⟩, ⟨(some 74), (.iaddr 1 (.t 72) (.t 73)), none, .none⟩, ⟨(some 75), (.load 1 false (.t 74)), none, (.rd [])⟩, ⟨(some 76), (.mov (.t 9)), none, .none⟩, ⟨(some 77), (.mov (.t 13)), none, .none⟩, ⟨(some 78), (.bin false .sub (.t 77) (.c (.int .i64 1))), none, .none⟩, ⟨(some 79), (.iaddr 1 (.t 76) (.t 78)), none, .none⟩, ⟨(some 80), (.load 1 false (.t 79)), none, (.rd [])⟩, ⟨(some 81), (.mov (.t 9)), none, .none⟩, ⟨(some 82), (.mov (.t 13)), none, .none⟩, ⟨(some 83), (.bin false .sub (.t 82) (.c (.int .i64 2))), none, .none⟩, ⟨(some 84), (.iaddr 1 (.t 81) (.t 83)), none, .none⟩, ⟨(some 85), (.load 1 false (.t 84)), none, (.rd [])⟩, ⟨(some 86), (.mov (.t 10)), none, .none⟩, ⟨(some 87), (.call 98 0 [] [(.t 75), (.t 80), (.t 85), (.t 86)]), none, (.rd [])⟩, ⟨(some 88), (.call 97 2 [0] [(.t 69), (.t 70), (.t 71), (.t 87)]), none, (.fb [])⟩, ⟨(some 89), (.iaddr 1 (.t 67) (.t 68)), none, .none⟩, ⟨none, (.store 1 (.t 89) (.t 88)), none, .full⟩])))
 (.reg [⟨(some 61), (.mov (.t 12)), none, .full⟩, ⟨(some 62), (.bin false .sub (.t 61) (.c (.int .i64 1))), none, .full⟩, ⟨(some 12), (.mov (.t 62)), none, .full⟩])))
def F86 : TFunc := ⟨2, 98, [(.tmp 4), (.tmp 5)],
 (.seq (.reg [⟨(some 4), (.mov (.c .nils)), none, .full⟩, ⟨(some 5), (.mov (.c .nils)), none, .full⟩])
 (.seq (.seq (.reg [⟨(some 14), (.mov (.t 0)), none, .full⟩, ⟨(some 15), (.mov (.t 1)), none, .full⟩, ⟨(some 16), (.call 89 0 [] [(.t 14), (.t 15)]), none, .full⟩, ⟨(some 17), (.bin false .lss (.t 16) (.c (.int .i64 0))), none, .full⟩])
 (.cond (.t 17)
 (.seq (.reg [⟨(some 18), (.mov (.t 0)), none, .full⟩, ⟨(some 19), (.call 85 0 [] [(.t 18)]), none, .full⟩, ⟨(some 4), (.mov (.c .nils)), none, .full⟩, ⟨(some 5), (.mov (.t 19)), none, .full⟩])
 .ret)
 .skip))
 (.seq (.seq (.reg [⟨(some 20), (.mov (.t 1)), none, .full⟩, ⟨(some 21), (.len false (.t 20)), none, .full⟩, ⟨(some 22), (.bin false .eql (.t 21) (.c (.int .i64 1))), none, .full⟩])
 (.cond (.t 22)
 (.seq (.reg [⟨(some 23), (.mov (.t 0)), none, .full⟩, ⟨(some 24), (.call 85 1 [] [(.t 23)]), none, .full⟩, ⟨(some 6), (.mov (.t 24)), none, .full⟩])
 (.seq (.reg [⟨(some 25), (.mov (.t 6)), none, .full⟩, ⟨(some 26), (.mov (.t 1)), none, .full⟩, ⟨(some 27), (.iaddr 1 (.t 26) (.c (.int .i64 0))), none, .full⟩, ⟨(some 28), (.load 1 false (.t 27)), none, .full⟩, ⟨(some 29), (.call 94 2 [0] [(.t 25), (.t 28)]), none, .full⟩, ⟨(some 7), (.mov (.t 29)), none, .full⟩])
 (.seq (.reg [⟨(some 30), (.mov (.t 6)), none, .full⟩, ⟨(some 31), (.mov (.t 7)), none, .full⟩, ⟨(some 32), (.bslice 1 [(.int .u32 0)] 1 [(0, (.t 31))]), none, .full⟩, ⟨(some 4), (.mov (.t 30)), none, .full⟩, ⟨(some 5), (.mov (.t 32)), none, .full⟩])
 .ret)))
 .skip))
 (.seq (.reg [⟨(some 33), (.mov (.t 1)), none, .full⟩, ⟨(some 34), (.mov (.t 1)), none, .full⟩, ⟨(some 35), (.len false (.t 34)), none, .full⟩, ⟨(some 36), (.bin false .sub (.t 35) (.c (.int .i64 1))), none, .full⟩, ⟨(some 37), (.iaddr 1 (.t 33) (.t 36)), none, .full⟩, ⟨(some 38), (.load 1 false (.t 37)), none, .full⟩, ⟨(some 39), (.call 95 0 [] [(.t 38)]), none, .full⟩, ⟨(some 8), (.mov (.t 39)), none, .full⟩])
 (.seq (.reg [⟨(some 40), (.mov (.t 0)), none, .none⟩, ⟨(some 41), (.mov (.t 8)), none, .none⟩, ⟨(some 42), (.call 96 1 [] [(.t 40), (.t 41)]), none, (.rd [])⟩, ⟨(some 43), (.mov (.t 1)), none, .none⟩, ⟨(some 44), (.mov (.t 8)), none, .none⟩, ⟨(some 45), (.call 96 0 [] [(.t 43), (.t 44)]), none, (.rd [])⟩, ⟨(some 46), (.mov (.t 1)), none, .none⟩, ⟨(some 47), (.len false (.t 46)), none, .none⟩, ⟨(some 48), (.slice 1 false (.t 45) none (some (.t 47)) none), none, .none⟩, ⟨(some 9), (.mov (.t 42)), none, .none⟩, ⟨(some 10), (.mov (.t 48)), none, .none⟩])
 (.seq (.reg [⟨(some 49), (.mov (.t 0)), none, .full⟩, ⟨(some 50), (.len false (.t 49)), none, .full⟩, ⟨(some 51), (.mov (.t 1)), none, .full⟩, ⟨(some 52), (.len false (.t 51)), none, .full⟩, ⟨(some 53), (.bin false .sub (.t 50) (.t 52)), none, .full⟩, ⟨(some 54), (.bin false .add (.t 53) (.c (.int .i64 1))), none, .full⟩, ⟨(some 55), (.mk 1 [(.int .u32 0)] (.t 54)), none, .full⟩, ⟨(some 11), (.mov (.t 55)), none, .full⟩])
 (.seq (.seq (.reg [⟨(some 56), (.mov (.t 11)), none, .full⟩, ⟨(some 57), (.len false (.t 56)), none, .full⟩, ⟨(some 58), (.bin false .sub (.t 57) (.c (.int .i64 1))), none, .full⟩, ⟨(some 12), (.mov (.t 58)), none, .full⟩])
 (.block 0 (.loop L86_0)))
 (.seq (.reg [⟨(some 90), (.mov (.t 9)), none, .full⟩, ⟨(some 91), (.mov (.t 8)), none, .full⟩, ⟨(some 92), (.call 99 2 [0] [(.t 90), (.t 91)]), none, .full⟩])
 (.seq (.reg [⟨(some 93), (.mov (.t 11)), none, .none⟩, ⟨(some 94), (.mov (.t 9)), none, .none⟩, ⟨(some 95), (.mov (.t 1)), none, .none⟩, ⟨(some 96), (.len false (.t 95)), none, .none⟩, ⟨(some 97), (.slice 1 false (.t 94) none (some (.t 96)) none), none, .none⟩, ⟨(some 4), (.mov (.t 93)), none, .none⟩, ⟨(some 5), (.mov (.t 97)), none, .none⟩])
 .ret)))))))))⟩
theorem ok86 : ∃ fn hh, Try.prog.funcs[86]? = some fn ∧ (∀ vals w, (callFunc 86 vals).run Try.prog w = .ok (.enter 86 vals) w) ∧ comp Try.prog hh fn = some F86 :=
  ⟨_, hintOf [(24, 1, []), (29, 2, [0]), (42, 1, []), (88, 2, [0]), (92, 2, [0])], Try.func86, Try.call86, by kernel_rfl⟩
def F87 : TFunc := ⟨2, 11, [(.cell 4 2 true)],
 (.seq (.reg [⟨(some 2), (.box 2 (.t 0)), none, .full⟩, ⟨(some 3), (.box 2 (.t 1)), none, .full⟩, ⟨(some 4), (.alloc [(.bool false), .nils]), none, .full⟩])
 (.seq (.reg [⟨(some 5), (.load 2 true (.t 2)), none, .full⟩, ⟨(some 6), (.load 2 true (.t 3)), none, .full⟩, ⟨(some 7), (.faddr 0 (.t 3)), none, .full⟩, ⟨(some 8), (.load 1 false (.t 7)), none, .full⟩, ⟨(some 9), (.un .not (.t 8)), none, .full⟩, ⟨(some 10), (.call 68 0 [] [(.t 5), (.t 6), (.t 9)]), none, .full⟩, ⟨none, (.store 2 (.t 4) (.t 10)), none, .full⟩])
 .ret))⟩
theorem ok87 : ∃ fn hh, Try.prog.funcs[87]? = some fn ∧ (∀ vals w, (callFunc 87 vals).run Try.prog w = .ok (.enter 87 vals) w) ∧ comp Try.prog hh fn = some F87 :=
  ⟨_, hintOf [], Try.func87, Try.call87, by kernel_rfl⟩
def L88_0 : TCode := (.seq (.reg [⟨(some 24), (.bin false .lss (.t 23) (.t 22)), none, .full⟩])
 (.seq (.cond (.t 24)
 .skip
 (.exit 0))
 (.seq (.block 1 (.seq (.reg [⟨(some 25), (.mov (.t 23)), none, .full⟩, ⟨(some 26), (.iaddr 1 (.t 21) (.t 23)), none, .full⟩, ⟨(some 27), (.load 1 false (.t 26)), none, .full⟩, ⟨(some 7), (.mov (.t 25)), none, .full⟩, ⟨(some 8), (.mov (.t 27)), none, .full⟩])
 (.seq (.reg [⟨(some 9), (.mov (.c (.int .u32 0))), none, .full⟩])
 (.seq (.seq (.reg [⟨(some 28), (.mov (.t 7)), none, .full⟩, ⟨(some 29), (.mov (.t 1)), none, .full⟩, ⟨(some 30), (.len false (.t 29)), none, .full⟩, ⟨(some 31), (.bin false .lss (.t 28) (.t 30)), none, .full⟩])
 (.cond (.t 31)
 (.reg [⟨(some 32), (.mov (.t 1)), none, .full⟩, ⟨(some 33), (.mov (.t 7)), none, .full⟩, ⟨(some 34), (.iaddr 1 (.t 32) (.t 33)), none, .full⟩, ⟨(some 35), (.load 1 false (.t 34)), none, .full⟩, ⟨(some 9), (.mov (.t 35)), none, .full⟩])
 .skip))
 (.reg [⟨(some 37), (.mov (.t 5)), none, .full⟩, ⟨(some 38), (.mov (.t 7)), none, .full⟩, ⟨(some 39), (.mov (.t 8)), none, .full⟩, ⟨(some 40), (.mov (.t 9)), none, .full⟩, ⟨(some 41), (.mov (.t 6)), none, .full⟩, ⟨(some 42), (.call 100 0 [] [(.t 39), (.t 40), (.t 41)]), none, .full⟩, ⟨(some 36), (.mov (.t 42)), none, .full⟩, ⟨(some 43), (.extract (.t 36) 0), none, .full⟩, ⟨(some 44), (.extract (.t 36) 1), none, .full⟩, ⟨(some 45), (.iaddr 1 (.t 37) (.t 38)), none, .full⟩, ⟨none, (.store 1 (.t 45) (.t 43)), none, .full⟩, ⟨(some 6), (.mov (.t 44)), none, .full⟩])))))
 (.reg [⟨(some 46), (.bin false .add (.t 23) (.c (.int .i64 1))), none, .full⟩, ⟨(some 23), (.mov (.t 46)), none, .full⟩]))))
def F88 : TFunc := ⟨2, 53, [(.tmp 4)],
 (.seq (.reg [⟨(some 4), (.mov (.c .nils)), none, .full⟩])
 (.seq (.seq (.reg [⟨(some 10), (.mov (.t 0)), none, .full⟩, ⟨(some 11), (.len false (.t 10)), none, .full⟩, ⟨(some 12), (.mov (.t 1)), none, .full⟩, ⟨(some 13), (.len false (.t 12)), none, .full⟩, ⟨(some 14), (.bin false .lss (.t 11) (.t 13)), none, .full⟩])
 (.cond (.t 14)
 (.reg [⟨(some 15), (.mov (.t 1)), none, .full⟩, ⟨(some 16), (.mov (.t 0)), none, .full⟩, ⟨(some 0), (.mov (.t 15)), none, .full⟩, ⟨(some 1), (.mov (.t 16)), none, .full⟩])
 .skip))
 (.seq (.reg [⟨(some 17), (.mov (.t 0)), none, .full⟩, ⟨(some 18), (.len false (.t 17)), none, .full⟩, ⟨(some 19), (.bin false .add (.t 18) (.c (.int .i64 1))), none, .full⟩, ⟨(some 20), (.mk 1 [(.int .u32 0)] (.t 19)), none, .full⟩, ⟨(some 5), (.mov (.t 20)), none, .full⟩])
 (.seq (.reg [⟨(some 6), (.mov (.c (.int .u32 0))), none, .full⟩])
 (.seq (.seq (.reg [⟨(some 21), (.mov (.t 0)), none, .full⟩, ⟨(some 22), (.len false (.t 21)), none, .full⟩, ⟨(some 23), (.mov (.c (.int .i64 0))), none, .full⟩])
 (.block 0 (.loop L88_0)))
 (.seq (.reg [⟨(some 47), (.mov (.t 5)), none, .full⟩, ⟨(some 48), (.mov (.t 0)), none, .full⟩, ⟨(some 49), (.len false (.t 48)), none, .full⟩, ⟨(some 50), (.mov (.t 6)), none, .full⟩, ⟨(some 51), (.iaddr 1 (.t 47) (.t 49)), none, .full⟩, ⟨none, (.store 1 (.t 51) (.t 50)), none, .full⟩])
 (.seq (.reg [⟨(some 52), (.mov (.t 5)), none, .full⟩, ⟨(some 4), (.mov (.t 52)), none, .full⟩])
 .ret)))))))⟩
theorem ok88 : ∃ fn hh, Try.prog.funcs[88]? = some fn ∧ (∀ vals w, (callFunc 88 vals).run Try.prog w = .ok (.enter 88 vals) w) ∧ comp Try.prog hh fn = some F88 :=
  ⟨_, hintOf [], Try.func88, Try.call88, by kernel_rfl⟩
def L89_0 : TCode := (.seq (.seq (.reg [⟨(some 19), (.mov (.t 5)), none, .full⟩, ⟨(some 20), (.bin false .geq (.t 19) (.c (.int .i64 0))), none, .full⟩])
 (.cond (.t 20)
 .skip
 (.exit 0)))
 (.seq (.block 1 (.seq (.reg [⟨(some 23), (.mov (.t 0)), none, .none⟩, ⟨(some 24), (.mov (.t 5)), none, .none⟩, ⟨(some 25), (.iaddr 1 (.t 23) (.t 24)), none, .none⟩, ⟨(some 26), (.load 1 false (.t 25)), none, (.rd [])⟩, ⟨(some 27), (.mov (.t 1)), none, .none⟩, ⟨(some 28), (.mov (.t 5)), none, .none⟩, ⟨(some 29), (.iaddr 1 (.t 27) (.t 28)), none, .none⟩, ⟨(some 30), (.load 1 false (.t 29)), none, (.rd [])⟩, ⟨(some 31), (.bin false .neq (.t 26) (.t 30)), none, .none⟩])
 (.cond (.t 31)
 (.seq (.seq (.reg [⟨(some 32), (.mov (.t 0)), none, .none⟩, ⟨(some 33), (.mov (.t 5)), none, .none⟩, ⟨(some 34), (.iaddr 1 (.t 32) (.t 33)), none, .none⟩, ⟨(some 35), (.load 1 false (.t 34)), none, (.rd [])⟩, ⟨(some 36), (.mov (.t 1)), none, .none⟩, ⟨(some 37), (.mov (.t 5)), none, .none⟩, ⟨(some 38), (.iaddr 1 (.t 36) (.t 37)), none, .none⟩, ⟨(some 39), (.load 1 false (.t 38)), none, (.rd [])⟩, ⟨(some 40), (.bin false .lss (.t 35) (.t 39)), none, .none⟩])
 (.cond (.t 40)
 (.seq (.reg [⟨(some 4), (.mov (.c (.int .i64 (-1)))), none, .full⟩])
 .ret)
 .skip))
 (.seq (.reg [⟨(some 4), (.mov (.c (.int .i64 1))), none, .full⟩])
 .ret))
 .skip)))
 (.reg [⟨(some 21), (.mov (.t 5)), none, .full⟩, ⟨(some 22), (.bin false .sub (.t 21) (.c (.int .i64 1))), none, .full⟩, ⟨(some 5), (.mov (.t 22)), none, .full⟩])))
def F89 : TFunc := ⟨2, 41, [(.tmp 4)],
 (.seq (.reg [⟨(some 4), (.mov (.c (.int .i64 0))), none, .full⟩])
 (.seq (.seq (.reg [⟨(some 6), (.mov (.t 0)), none, .full⟩, ⟨(some 7), (.len false (.t 6)), none, .full⟩, ⟨(some 8), (.mov (.t 1)), none, .full⟩, ⟨(some 9), (.len false (.t 8)), none, .full⟩, ⟨(some 10), (.bin false .neq (.t 7) (.t 9)), none, .full⟩])
 (.cond (.t 10)
 (.seq (.seq (.reg [⟨(some 11), (.mov (.t 0)), none, .full⟩, ⟨(some 12), (.len false (.t 11)), none, .full⟩, ⟨(some 13), (.mov (.t 1)), none, .full⟩, ⟨(some 14), (.len false (.t 13)), none, .full⟩, ⟨(some 15), (.bin false .lss (.t 12) (.t 14)), none, .full⟩])
 (.cond (.t 15)
 (.seq (.reg [⟨(some 4), (.mov (.c (.int .i64 (-1)))), none, .full⟩])
 .ret)
 .skip))
 (.seq (.reg [⟨(some 4), (.mov (.c (.int .i64 1))), none, .full⟩])
 .ret))
 .skip))
 (.seq (.seq (.reg [⟨(some 16), (.mov (.t 0)), none, .full⟩, ⟨(some 17), (.len false (.t 16)), none, .full⟩, ⟨(some 18), (.bin false .sub (.t 17) (.c (.int .i64 1))), none, .full⟩, ⟨(some 5), (.mov (.t 18)), none, .full⟩])
 (.block 0 (.loop L89_0)))
 (.seq (.reg [⟨(some 4), (.mov (.c (.int .i64 0))), none, .full⟩])
 .ret))))⟩
theorem ok89 : ∃ fn hh, Try.prog.funcs[89]? = some fn ∧ (∀ vals w, (callFunc 89 vals).run Try.prog w = .ok (.enter 89 vals) w) ∧ comp Try.prog hh fn = some F89 :=
  ⟨_, hintOf [], Try.func89, Try.call89, by kernel_rfl⟩
def L90_0 : TCode := (.seq (.reg [⟨(some 16), (.bin false .lss (.t 15) (.t 14)), none, .full⟩])
 (.seq (.cond (.t 16)
 .skip
 (.exit 0))
 (.seq (.block 1 (.seq (.reg [⟨(some 17), (.mov (.t 15)), none, .full⟩, ⟨(some 18), (.iaddr 1 (.t 13) (.t 15)), none, .full⟩, ⟨(some 19), (.load 1 false (.t 18)), none, .full⟩, ⟨(some 7), (.mov (.t 17)), none, .full⟩, ⟨(some 8), (.mov (.t 19)), none, .full⟩])
 (.seq (.reg [⟨(some 9), (.mov (.c (.int .u32 0))), none, .full⟩])
 (.seq (.seq (.reg [⟨(some 20), (.mov (.t 7)), none, .full⟩, ⟨(some 21), (.mov (.t 1)), none, .full⟩, ⟨(some 22), (.len false (.t 21)), none, .full⟩, ⟨(some 23), (.bin false .lss (.t 20) (.t 22)), none, .full⟩])
 (.cond (.t 23)
 (.reg [⟨(some 24), (.mov (.t 1)), none, .full⟩, ⟨(some 25), (.mov (.t 7)), none, .full⟩, ⟨(some 26), (.iaddr 1 (.t 24) (.t 25)), none, .full⟩, ⟨(some 27), (.load 1 false (.t 26)), none, .full⟩, ⟨(some 9), (.mov (.t 27)), none, .full⟩])
 .skip))
 (.reg [⟨(some 29), (.mov (.t 5)), none, .full⟩, ⟨(some 30), (.mov (.t 7)), none, .full⟩, ⟨(some 31), (.mov (.t 8)), none, .full⟩, ⟨(some 32), (.mov (.t 9)), none, .full⟩, ⟨(some 33), (.mov (.t 6)), none, .full⟩, ⟨(some 34), (.call 101 0 [] [(.t 31), (.t 32), (.t 33)]), none, .full⟩, ⟨(some 28), (.mov (.t 34)), none, .full⟩, ⟨(some 35), (.extract (.t 28) 0), none, .full⟩, ⟨(some 36), (.extract (.t 28) 1), none, .full⟩, ⟨(some 37), (.iaddr 1 (.t 29) (.t 30)), none, .full⟩, ⟨none, (.store 1 (.t 37) (.t 35)), none, .full⟩, ⟨(some 6), (.mov (.t 36)), none, .full⟩])))))
 (.reg [⟨(some 38), (.bin false .add (.t 15) (.c (.int .i64 1))), none, .full⟩, ⟨(some 15), (.mov (.t 38)), none, .full⟩]))))
def F90 : TFunc := ⟨2, 40, [(.tmp 4)],
 (.seq (.reg [⟨(some 4), (.mov (.c .nils)), none, .full⟩])
 (.seq (.reg [⟨(some 10), (.mov (.t 0)), none, .full⟩, ⟨(some 11), (.len false (.t 10)), none, .full⟩, ⟨(some 12), (.mk 1 [(.int .u32 0)] (.t 11)), none, .full⟩, ⟨(some 5), (.mov (.t 12)), none, .full⟩])
 (.seq (.reg [⟨(some 6), (.mov (.c (.int .u32 0))), none, .full⟩])
 (.seq (.seq (.reg [⟨(some 13), (.mov (.t 0)), none, .full⟩, ⟨(some 14), (.len false (.t 13)), none, .full⟩, ⟨(some 15), (.mov (.c (.int .i64 0))), none, .full⟩])
 (.block 0 (.loop L90_0)))
 (.seq (.reg [⟨(some 39), (.mov (.t 5)), none, .full⟩, ⟨(some 4), (.mov (.t 39)), none, .full⟩])
 .ret)))))⟩
theorem ok90 : ∃ fn hh, Try.prog.funcs[90]? = some fn ∧ (∀ vals w, (callFunc 90 vals).run Try.prog w = .ok (.enter 90 vals) w) ∧ comp Try.prog hh fn = some F90 :=
  ⟨_, hintOf [], Try.func90, Try.call90, by kernel_rfl⟩
def F91 : TFunc := ⟨2, 14, [(.tmp 4)],
 (.seq (.reg [⟨(some 4), (.mov (.c (.int .u64 0))), none, .full⟩])
 (.seq (.seq (.reg [⟨(some 5), (.mov (.t 1)), none, .full⟩, ⟨(some 6), (.mov (.t 0)), none, .full⟩, ⟨(some 7), (.len false (.t 6)), none, .full⟩, ⟨(some 8), (.bin false .lss (.t 5) (.t 7)), none, .full⟩])
 (.cond (.t 8)
 (.seq (.reg [⟨(some 9), (.mov (.t 0)), none, .full⟩, ⟨(some 10), (.mov (.t 1)), none, .full⟩, ⟨(some 11), (.iaddr 1 (.t 9) (.t 10)), none, .full⟩, ⟨(some 12), (.load 1 false (.t 11)), none, .full⟩, ⟨(some 13), (.conv .u64 (.t 12)), none, .full⟩, ⟨(some 4), (.mov (.t 13)), none, .full⟩])
 .ret)
 .skip))
 (.seq (.reg [⟨(some 4), (.mov (.c (.int .u64 0))), none, .full⟩])
 .ret)))⟩
theorem ok91 : ∃ fn hh, Try.prog.funcs[91]? = some fn ∧ (∀ vals w, (callFunc 91 vals).run Try.prog w = .ok (.enter 91 vals) w) ∧ comp Try.prog hh fn = some F91 :=
  ⟨_, hintOf [], Try.func91, Try.call91, by kernel_rfl⟩
def F92 : TFunc := ⟨1, 12, [(.tmp 2)],
 (.seq (.reg [⟨(some 1), (.box 4 (.t 0)), none, .full⟩, ⟨(some 2), (.mov (.c (.int .i64 0))), none, .full⟩])
 (.seq (.reg [⟨(some 6), (.load 4 true (.t 1)), none, .full⟩, ⟨(some 7), (.call 45 0 [] [(.t 6)]), none, .full⟩, ⟨(some 5), (.mov (.t 7)), none, .full⟩, ⟨(some 8), (.extract (.t 5) 0), none, .full⟩, ⟨(some 9), (.extract (.t 5) 1), none, .full⟩, ⟨(some 3), (.alloc [(.bool false), .nils]), none, .full⟩, ⟨(some 4), (.alloc [(.bool false), .nils]), none, .full⟩, ⟨none, (.store 2 (.t 3) (.t 8)), none, .full⟩, ⟨none, (.store 2 (.t 4) (.t 9)), none, .full⟩])
 (.seq (.reg [⟨(some 10), (.load 2 true (.t 3)), none, .full⟩, ⟨(some 11), (.call 62 0 [] [(.t 10)]), none, .full⟩, ⟨(some 2), (.mov (.t 11)), none, .full⟩])
 .ret)))⟩
theorem ok92 : ∃ fn hh, Try.prog.funcs[92]? = some fn ∧ (∀ vals w, (callFunc 92 vals).run Try.prog w = .ok (.enter 92 vals) w) ∧ comp Try.prog hh fn = some F92 :=
  ⟨_, hintOf [], Try.func92, Try.call92, by kernel_rfl⟩
def F93 : TFunc := ⟨2, 26, [(.tmp 4)],
 (.seq (.reg [⟨(some 2), (.box 2 (.t 0)), none, .full⟩, ⟨(some 3), (.box 2 (.t 1)), none, .full⟩, ⟨(some 4), (.mov (.c (.int .i64 0))), none, .full⟩])
 (.seq (.reg [⟨(some 7), (.load 2 true (.t 2)), none, (.box 2)⟩, ⟨(some 8), (.call 62 0 [] [(.t 7)]), none, (.rd [])⟩, ⟨(some 9), (.load 2 true (.t 3)), none, (.box 3)⟩, ⟨(some 10), (.call 62 0 [] [(.t 9)]), none, (.rd [])⟩, ⟨(some 5), (.mov (.t 8)), none, .none⟩, ⟨(some 6), (.mov (.t 10)), none, .none⟩])
 (.seq (.block 0 (.seq (.reg [⟨(some 12), (.mov (.t 5)), none, .full⟩, ⟨(some 13), (.mov (.t 6)), none, .full⟩, ⟨(some 14), (.bin false .lss (.t 12) (.t 13)), none, .full⟩, ⟨(some 11), (.mov (.t 14)), none, .full⟩])
 (.cond (.t 11)
 (.seq (.reg [⟨(some 4), (.mov (.c (.int .i64 (-1)))), none, .full⟩])
 .ret)
 (.seq (.reg [⟨(some 16), (.mov (.t 5)), none, .full⟩, ⟨(some 17), (.mov (.t 6)), none, .full⟩, ⟨(some 18), (.bin false .gtr (.t 16) (.t 17)), none, .full⟩, ⟨(some 15), (.mov (.t 18)), none, .full⟩])
 (.cond (.t 15)
 (.seq (.reg [⟨(some 4), (.mov (.c (.int .i64 1))), none, .full⟩])
 .ret)
 .skip)))))
 (.seq (.reg [⟨(some 19), (.mov (.t 5)), none, .none⟩, ⟨(some 20), (.load 2 true (.t 2)), none, (.box 2)⟩, ⟨(some 21), (.call 70 0 [] [(.t 20)]), none, (.rd [])⟩, ⟨(some 22), (.load 2 true (.t 3)), none, (.box 3)⟩, ⟨(some 23), (.call 70 0 [] [(.t 22)]), none, (.rd [])⟩, ⟨(some 24), (.call 89 0 [] [(.t 21), (.t 23)]), none, (.rd [])⟩, ⟨(some 25), (.bin false .mul (.t 19) (.t 24)), none, .none⟩, ⟨(some 4), (.mov (.t 25)), none, .none⟩])
 .ret))))⟩
theorem ok93 : ∃ fn hh, Try.prog.funcs[93]? = some fn ∧ (∀ vals w, (callFunc 93 vals).run Try.prog w = .ok (.enter 93 vals) w) ∧ comp Try.prog hh fn = some F93 :=
  ⟨_, hintOf [], Try.func93, Try.call93, by kernel_rfl⟩
def L94_0 : TCode := (.seq (.seq (.reg [⟨(some 10), (.mov (.t 6)), none, .full⟩, ⟨(some 11), (.bin false .geq (.t 10) (.c (.int .i64 0))), none, .full⟩])
 (.cond (.t 11)
 .skip
 (.exit 0)))
 (.seq (.block 1 (.seq (.reg [⟨(some 14), (.mov (.t 5)), none, .full⟩, ⟨(some 15), (.bin false .shl (.t 14) (.c (.int .u64 32))), none, .full⟩, ⟨(some 16), (.mov (.t 0)), none, .full⟩, ⟨(some 17), (.mov (.t 6)), none, .full⟩, ⟨(some 18), (.iaddr 1 (.t 16) (.t 17)), none, .full⟩, ⟨(some 19), (.load 1 false (.t 18)), none, .full⟩, ⟨(some 20), (.conv .u64 (.t 19)), none, .full⟩, ⟨(some 21), (.bin false .or (.t 15) (.t 20)), none, .full⟩, ⟨(some 5), (.mov (.t 21)), none, .full⟩])
 (.seq (.reg [⟨(some 22), (.mov (.t 0)), none, .full⟩, ⟨(some 23), (.mov (.t 6)), none, .full⟩, ⟨(some 24), (.mov (.t 5)), none, .full⟩, ⟨(some 25), (.mov (.t 1)), none, .full⟩, ⟨(some 26), (.conv .u64 (.t 25)), none, .full⟩, ⟨(some 27), (.bin false .quo (.t 24) (.t 26)), none, .full⟩, ⟨(some 28), (.conv .u32 (.t 27)), none, .full⟩, ⟨(some 29), (.iaddr 1 (.t 22) (.t 23)), none, .full⟩, ⟨none, (.store 1 (.t 29) (.t 28)), none, .full⟩])
 (.reg [⟨(some 30), (.mov (.t 5)), none, .full⟩, ⟨(some 31), (.mov (.t 1)), none, .full⟩, ⟨(some 32), (.conv .u64 (.t 31)), none, .full⟩, ⟨(some 33), (.bin false .rem (.t 30) (.t 32)), none, .full⟩, ⟨(some 5), (.mov (.t 33)), none, .full⟩]))))
 (.reg [⟨(some 12), (.mov (.t 6)), none, .full⟩, ⟨(some 13), (.bin false .sub (.t 12) (.c (.int .i64 1))), none, .full⟩, ⟨(some 6), (.mov (.t 13)), none, .full⟩])))
def F94 : TFunc := ⟨2, 36, [(.tmp 4)],
 (.seq (.reg [⟨(some 4), (.mov (.c (.int .u32 0))), none, .full⟩])
 (.seq (.reg [⟨(some 5), (.mov (.c (.int .u64 0))), none, .full⟩])
 (.seq (.seq (.reg [⟨(some 7), (.mov (.t 0)), none, .full⟩, ⟨(some 8), (.len false (.t 7)), none, .full⟩, ⟨(some 9), (.bin false .sub (.t 8) (.c (.int .i64 1))), none, .full⟩, ⟨(some 6), (.mov (.t 9)), none, .full⟩])
 (.block 0 (.loop L94_0)))
 (.seq (.reg [⟨(some 34), (.mov (.t 5)), none, .full⟩, ⟨(some 35), (.conv .u32 (.t 34)), none, .full⟩, ⟨(some 4), (.mov (.t 35)), none, .full⟩])
 .ret))))⟩
theorem ok94 : ∃ fn hh, Try.prog.funcs[94]? = some fn ∧ (∀ vals w, (callFunc 94 vals).run Try.prog w = .ok (.enter 94 vals) w) ∧ comp Try.prog hh fn = some F94 :=
  ⟨_, hintOf [], Try.func94, Try.call94, by kernel_rfl⟩
def F95 : TFunc := ⟨1, 6, [(.tmp 2)],
 (.seq (.reg [⟨(some 2), (.mov (.c (.int .i64 0))), none, .full⟩])
 (.seq (.reg [⟨(some 3), (.mov (.t 0)), none, .full⟩, ⟨(some 4), (.call 102 0 [] [(.t 3)]), none, .full⟩, ⟨(some 5), (.bin false .sub (.c (.int .i64 32)) (.t 4)), none, .full⟩, ⟨(some 2), (.mov (.t 5)), none, .full⟩])
 .ret))⟩
theorem ok95 : ∃ fn hh, Try.prog.funcs[95]? = some fn ∧ (∀ vals w, (callFunc 95 vals).run Try.prog w = .ok (.enter 95 vals) w) ∧ comp Try.prog hh fn = some F95 :=
  ⟨_, hintOf [], Try.func95, Try.call95, by kernel_rfl⟩
end Go.TM.Fn
end
