/- awake; the laws LocksetExcludes and LocksetUnsorted. -/
import Derived.Test.YtejicekieoclaaaK6
set_option linter.unusedSimpArgs false
namespace Go.Abs
open Go.Proofs Go.Sort
set_option maxRecDepth 100000
set_option maxHeartbeats 4000000
def f12c : IC := (.seq (.reg [⟨some ⟨0, [], []⟩, .mv (.c (.sc (.bool false))), none⟩])
 (.seq (.reg [⟨some ⟨8, [], []⟩, .bld [.sc (.int .i64 0), .sc (.int .i64 0), .sl true 1 []] [], none⟩,
  ⟨some ⟨9, [], []⟩, .bsl 1 [[.sc (.int .i64 0)]] [(0, (.c (.sc (.int .i64 0))))], none⟩,
  ⟨some ⟨10, [], []⟩, .bld [.sl true 1 [], .sl true 1 []] [(0, 1, (.t 9))], none⟩,
  ⟨some ⟨11, [], []⟩, .call 8 [(.t 8), (.c (.sc (.int .i64 0))), (.c (.sc (.bool true))), (.t 10)] 1, none⟩,
  ⟨some ⟨7, [], []⟩, .cp (.t 11), none⟩,
  ⟨some ⟨12, [], []⟩, .ext (.t 7) 0, none⟩,
  ⟨some ⟨13, [], []⟩, .ext (.t 7) 1, none⟩,
  ⟨some ⟨1, [], []⟩, .bx 3 (.c (.agg [.sc (.int .i64 0), .sc (.int .i64 0), .sl true 1 []])), none⟩,
  ⟨none, .st 3 (.t 1) (.t 12), none⟩,
  ⟨some ⟨2, [], []⟩, .mv (.t 13), none⟩])
 (.seq (.reg [⟨some ⟨15, [], []⟩, .ld true 3 (.t 1), none⟩,
  ⟨some ⟨16, [], []⟩, .bsl 1 [[.sc (.int .i64 0)]] [(0, (.c (.sc (.int .i64 1))))], none⟩,
  ⟨some ⟨17, [], []⟩, .bld [.sl true 1 [], .sl true 1 []] [(0, 1, (.t 16))], none⟩,
  ⟨some ⟨18, [], []⟩, .call 8 [(.t 15), (.c (.sc (.int .i64 1))), (.c (.sc (.bool true))), (.t 17)] 1, none⟩,
  ⟨some ⟨14, [], []⟩, .cp (.t 18), none⟩,
  ⟨some ⟨19, [], []⟩, .ext (.t 14) 0, none⟩,
  ⟨some ⟨20, [], []⟩, .ext (.t 14) 1, none⟩,
  ⟨some ⟨3, [38, 43], []⟩, .bx 3 (.c (.agg [.sc (.int .i64 0), .sc (.int .i64 0), .sl true 1 []])), none⟩,
  ⟨none, .st 3 (.t 3) (.t 19), none⟩,
  ⟨some ⟨4, [], []⟩, .mv (.t 20), none⟩])
 (.seq (.reg [⟨some ⟨22, [], []⟩, .ld true 3 (.t 3), none⟩,
  ⟨some ⟨23, [], []⟩, .bsl 1 [[.sc (.int .i64 0)]] [(0, (.c (.sc (.int .i64 0))))], none⟩,
  ⟨some ⟨24, [], []⟩, .bld [.sl true 1 [], .sl true 1 []] [(0, 1, (.t 23))], none⟩,
  ⟨some ⟨25, [], []⟩, .call 8 [(.t 22), (.c (.sc (.int .i64 0))), (.c (.sc (.bool true))), (.t 24)] 1, none⟩,
  ⟨some ⟨21, [], []⟩, .cp (.t 25), none⟩,
  ⟨some ⟨26, [], []⟩, .ext (.t 21) 0, none⟩,
  ⟨some ⟨27, [], []⟩, .ext (.t 21) 1, none⟩,
  ⟨some ⟨5, [], []⟩, .bx 3 (.c (.agg [.sc (.int .i64 0), .sc (.int .i64 0), .sl true 1 []])), none⟩,
  ⟨none, .st 3 (.t 5) (.t 26), none⟩,
  ⟨some ⟨6, [], []⟩, .mv (.t 27), none⟩])
 (.seq (.reg [⟨some ⟨28, [], []⟩, .cp (.t 2), none⟩,
  ⟨some ⟨29, [], []⟩, .un .not (.t 28), none⟩,
  ⟨some ⟨30, [], []⟩, .cp (.t 29), none⟩,
  ⟨some ⟨31, [], []⟩, .cp (.t 4), (some (30, true))⟩,
  ⟨some ⟨32, [], []⟩, .un .not (.t 31), (some (30, true))⟩,
  ⟨some ⟨33, [], []⟩, .pick (.t 30) (.t 32) (.c (.sc (.bool false))), none⟩,
  ⟨some ⟨34, [], []⟩, .cp (.t 33), none⟩,
  ⟨some ⟨35, [], []⟩, .cp (.t 6), (some (34, true))⟩,
  ⟨some ⟨36, [], []⟩, .pick (.t 34) (.t 35) (.c (.sc (.bool false))), none⟩,
  ⟨some ⟨37, [], []⟩, .cp (.t 36), none⟩,
  ⟨some ⟨38, [], [3]⟩, .fad 0 (.t 3), (some (37, true))⟩,
  ⟨some ⟨39, [], []⟩, .ld false 1 (.t 38), (some (37, true))⟩,
  ⟨some ⟨40, [], []⟩, .bin .eql (.t 39) (.c (.sc (.int .i64 3))), (some (37, true))⟩,
  ⟨some ⟨41, [], []⟩, .pick (.t 37) (.t 40) (.c (.sc (.bool false))), none⟩,
  ⟨some ⟨42, [], []⟩, .cp (.t 41), none⟩,
  ⟨some ⟨43, [], [3]⟩, .fad 2 (.t 3), (some (42, true))⟩,
  ⟨some ⟨44, [], []⟩, .ld false 1 (.t 43), (some (42, true))⟩,
  ⟨some ⟨45, [], []⟩, .bsl 1 [[.sc (.int .i64 0)]] [(0, (.c (.sc (.int .i64 1))))], (some (42, true))⟩,
  ⟨some ⟨46, [], []⟩, .call 21 [(.t 44), (.t 45)] 0, (some (42, true))⟩,
  ⟨some ⟨47, [], []⟩, .pick (.t 42) (.t 46) (.c (.sc (.bool false))), none⟩,
  ⟨some ⟨0, [], []⟩, .mv (.t 47), none⟩])
 .ret)))))
def f12g : Gi := ⟨[(38, [3]), (43, [3])]⟩
def f12r : List RV := [.tmp 0]
def f12 : FI := ⟨f12c, f12g, f12r⟩

theorem chk12 : chkF Try.prog Try.f12 f12 = true := by kernel_rfl
def f6c : IC := (.seq (.reg [⟨some ⟨2, [6, 9], []⟩, .bx 2 (.t 0), none⟩,
  ⟨some ⟨3, [13, 17], []⟩, .bx 2 (.t 1), none⟩,
  ⟨some ⟨4, [], []⟩, .mv (.c (.sc (.bool false))), none⟩])
 (.seq (.seq (.reg [⟨some ⟨6, [], [2]⟩, .fad 0 (.t 2), none⟩,
  ⟨some ⟨7, [], []⟩, .ld false 1 (.t 6), none⟩,
  ⟨some ⟨8, [], []⟩, .len (.t 7), none⟩,
  ⟨some ⟨9, [], [2]⟩, .fad 1 (.t 2), none⟩,
  ⟨some ⟨10, [], []⟩, .ld false 1 (.t 9), none⟩,
  ⟨some ⟨11, [], []⟩, .len (.t 10), none⟩,
  ⟨some ⟨12, [], []⟩, .bin .add (.t 8) (.t 11), none⟩,
  ⟨some ⟨13, [], [3]⟩, .fad 0 (.t 3), none⟩,
  ⟨some ⟨14, [], []⟩, .ld false 1 (.t 13), none⟩,
  ⟨some ⟨15, [], []⟩, .len (.t 14), none⟩,
  ⟨some ⟨16, [], []⟩, .bin .add (.t 12) (.t 15), none⟩,
  ⟨some ⟨17, [], [3]⟩, .fad 1 (.t 3), none⟩,
  ⟨some ⟨18, [], []⟩, .ld false 1 (.t 17), none⟩,
  ⟨some ⟨19, [], []⟩, .len (.t 18), none⟩,
  ⟨some ⟨20, [], []⟩, .bin .add (.t 16) (.t 19), none⟩,
  ⟨some ⟨21, [], []⟩, .bin .gtr (.t 20) (.c (.sc (.int .i64 100))), none⟩])
 (.cond (.t 21) (.seq (.reg [⟨some ⟨22, [], []⟩, .call 12 [] 0, none⟩,
  ⟨some ⟨4, [], []⟩, .mv (.t 22), none⟩])
 .ret) .skip))
 (.seq (.reg [⟨some ⟨23, [], []⟩, .ld true 2 (.t 2), none⟩,
  ⟨some ⟨24, [], []⟩, .ld true 2 (.t 3), none⟩,
  ⟨some ⟨25, [], []⟩, .call 14 [(.t 23), (.t 24)] 0, none⟩,
  ⟨some ⟨5, [], []⟩, .mv (.t 25), none⟩])
 (.seq (.reg [⟨some ⟨26, [], []⟩, .ld true 2 (.t 2), none⟩,
  ⟨some ⟨27, [], []⟩, .ld true 2 (.t 3), none⟩,
  ⟨some ⟨28, [], []⟩, .call 15 [(.t 26), (.t 27)] 0, none⟩,
  ⟨some ⟨29, [], []⟩, .cp (.t 5), none⟩,
  ⟨some ⟨30, [], []⟩, .beq false (.t 28) (.t 29), none⟩,
  ⟨some ⟨31, [], []⟩, .cp (.t 30), none⟩,
  ⟨some ⟨32, [], []⟩, .ld true 2 (.t 3), (some (31, true))⟩,
  ⟨some ⟨33, [], []⟩, .ld true 2 (.t 2), (some (31, true))⟩,
  ⟨some ⟨34, [], []⟩, .call 15 [(.t 32), (.t 33)] 0, (some (31, true))⟩,
  ⟨some ⟨35, [], []⟩, .cp (.t 5), (some (31, true))⟩,
  ⟨some ⟨36, [], []⟩, .beq false (.t 34) (.t 35), (some (31, true))⟩,
  ⟨some ⟨37, [], []⟩, .pick (.t 31) (.t 36) (.c (.sc (.bool false))), none⟩,
  ⟨some ⟨38, [], []⟩, .cp (.t 37), none⟩,
  ⟨some ⟨39, [], []⟩, .call 12 [] 0, (some (38, true))⟩,
  ⟨some ⟨40, [], []⟩, .pick (.t 38) (.t 39) (.c (.sc (.bool false))), none⟩,
  ⟨some ⟨4, [], []⟩, .mv (.t 40), none⟩])
 .ret))))
def f6g : Gi := ⟨[(6, [2]), (9, [2]), (13, [3]), (17, [3])]⟩
def f6r : List RV := [.tmp 4]
def f6 : FI := ⟨f6c, f6g, f6r⟩

theorem chk6 : chkF Try.prog Try.f6 f6 = true := by kernel_rfl
def f4c : IC := (.seq (.reg [⟨some ⟨8, [23, 26], []⟩, .bx 2 (.t 3), none⟩,
  ⟨some ⟨9, [30, 34], []⟩, .bx 2 (.t 4), none⟩,
  ⟨some ⟨10, [], []⟩, .mv (.c (.sc (.bool false))), none⟩])
 (.seq (.seq (.reg [⟨some ⟨23, [], [8]⟩, .fad 0 (.t 8), none⟩,
  ⟨some ⟨24, [], []⟩, .ld false 1 (.t 23), none⟩,
  ⟨some ⟨25, [], []⟩, .len (.t 24), none⟩,
  ⟨some ⟨26, [], [8]⟩, .fad 1 (.t 8), none⟩,
  ⟨some ⟨27, [], []⟩, .ld false 1 (.t 26), none⟩,
  ⟨some ⟨28, [], []⟩, .len (.t 27), none⟩,
  ⟨some ⟨29, [], []⟩, .bin .add (.t 25) (.t 28), none⟩,
  ⟨some ⟨30, [], [9]⟩, .fad 0 (.t 9), none⟩,
  ⟨some ⟨31, [], []⟩, .ld false 1 (.t 30), none⟩,
  ⟨some ⟨32, [], []⟩, .len (.t 31), none⟩,
  ⟨some ⟨33, [], []⟩, .bin .add (.t 29) (.t 32), none⟩,
  ⟨some ⟨34, [], [9]⟩, .fad 1 (.t 9), none⟩,
  ⟨some ⟨35, [], []⟩, .ld false 1 (.t 34), none⟩,
  ⟨some ⟨36, [], []⟩, .len (.t 35), none⟩,
  ⟨some ⟨37, [], []⟩, .bin .add (.t 33) (.t 36), none⟩,
  ⟨some ⟨38, [], []⟩, .bin .gtr (.t 37) (.c (.sc (.int .i64 60))), none⟩])
 (.cond (.t 38) (.seq (.reg [⟨some ⟨39, [], []⟩, .call 12 [] 0, none⟩,
  ⟨some ⟨10, [], []⟩, .mv (.t 39), none⟩])
 .ret) .skip))
 (.seq (.reg [⟨some ⟨41, [], []⟩, .bld [.sc (.int .i64 0), .sc (.int .i64 0), .sl true 1 []] [], none⟩,
  ⟨some ⟨42, [], []⟩, .cp (.t 0), none⟩,
  ⟨some ⟨43, [], []⟩, .cp (.t 2), none⟩,
  ⟨some ⟨44, [], []⟩, .ld true 2 (.t 8), none⟩,
  ⟨some ⟨45, [], []⟩, .call 8 [(.t 41), (.t 42), (.t 43), (.t 44)] 1, none⟩,
  ⟨some ⟨40, [], []⟩, .cp (.t 45), none⟩,
  ⟨some ⟨46, [], []⟩, .ext (.t 40) 0, none⟩,
  ⟨some ⟨47, [], []⟩, .ext (.t 40) 1, none⟩,
  ⟨some ⟨11, [], []⟩, .bx 3 (.c (.agg [.sc (.int .i64 0), .sc (.int .i64 0), .sl true 1 []])), none⟩,
  ⟨none, .st 3 (.t 11) (.t 46), none⟩,
  ⟨some ⟨12, [], []⟩, .mv (.t 47), none⟩])
 (.seq (.reg [⟨some ⟨49, [], []⟩, .ld true 3 (.t 11), none⟩,
  ⟨some ⟨50, [], []⟩, .cp (.t 1), none⟩,
  ⟨some ⟨51, [], []⟩, .cp (.t 2), none⟩,
  ⟨some ⟨52, [], []⟩, .ld true 2 (.t 8), none⟩,
  ⟨some ⟨53, [], []⟩, .call 8 [(.t 49), (.t 50), (.t 51), (.t 52)] 1, none⟩,
  ⟨some ⟨48, [], []⟩, .cp (.t 53), none⟩,
  ⟨some ⟨54, [], []⟩, .ext (.t 48) 0, none⟩,
  ⟨some ⟨55, [], []⟩, .ext (.t 48) 1, none⟩,
  ⟨some ⟨13, [], []⟩, .bx 3 (.c (.agg [.sc (.int .i64 0), .sc (.int .i64 0), .sl true 1 []])), none⟩,
  ⟨none, .st 3 (.t 13) (.t 54), none⟩,
  ⟨some ⟨14, [], []⟩, .mv (.t 55), none⟩])
 (.seq (.reg [⟨some ⟨57, [], []⟩, .ld true 3 (.t 13), none⟩,
  ⟨some ⟨58, [], []⟩, .cp (.t 0), none⟩,
  ⟨some ⟨59, [], []⟩, .cp (.t 2), none⟩,
  ⟨some ⟨60, [], []⟩, .un .not (.t 59), none⟩,
  ⟨some ⟨61, [], []⟩, .ld true 2 (.t 9), none⟩,
  ⟨some ⟨62, [], []⟩, .call 8 [(.t 57), (.t 58), (.t 60), (.t 61)] 1, none⟩,
  ⟨some ⟨56, [], []⟩, .cp (.t 62), none⟩,
  ⟨some ⟨63, [], []⟩, .ext (.t 56) 0, none⟩,
  ⟨some ⟨64, [], []⟩, .ext (.t 56) 1, none⟩,
  ⟨some ⟨15, [], []⟩, .bx 3 (.c (.agg [.sc (.int .i64 0), .sc (.int .i64 0), .sl true 1 []])), none⟩,
  ⟨none, .st 3 (.t 15) (.t 63), none⟩,
  ⟨some ⟨16, [], []⟩, .mv (.t 64), none⟩])
 (.seq (.reg [⟨some ⟨66, [], []⟩, .bld [.sc (.int .i64 0), .sc (.int .i64 0), .sl true 1 []] [], none⟩,
  ⟨some ⟨67, [], []⟩, .cp (.t 0), none⟩,
  ⟨some ⟨68, [], []⟩, .cp (.t 2), none⟩,
  ⟨some ⟨69, [], []⟩, .ld true 2 (.t 8), none⟩,
  ⟨some ⟨70, [], []⟩, .call 9 [(.t 66), (.t 67), (.t 68), (.t 69)] 1, none⟩,
  ⟨some ⟨65, [], []⟩, .cp (.t 70), none⟩,
  ⟨some ⟨71, [], []⟩, .ext (.t 65) 0, none⟩,
  ⟨some ⟨72, [], []⟩, .ext (.t 65) 1, none⟩,
  ⟨some ⟨17, [], []⟩, .bx 3 (.c (.agg [.sc (.int .i64 0), .sc (.int .i64 0), .sl true 1 []])), none⟩,
  ⟨none, .st 3 (.t 17) (.t 71), none⟩,
  ⟨some ⟨18, [], []⟩, .mv (.t 72), none⟩])
 (.seq (.reg [⟨some ⟨74, [], []⟩, .ld true 3 (.t 17), none⟩,
  ⟨some ⟨75, [], []⟩, .cp (.t 1), none⟩,
  ⟨some ⟨76, [], []⟩, .cp (.t 2), none⟩,
  ⟨some ⟨77, [], []⟩, .ld true 2 (.t 8), none⟩,
  ⟨some ⟨78, [], []⟩, .call 9 [(.t 74), (.t 75), (.t 76), (.t 77)] 1, none⟩,
  ⟨some ⟨73, [], []⟩, .cp (.t 78), none⟩,
  ⟨some ⟨79, [], []⟩, .ext (.t 73) 0, none⟩,
  ⟨some ⟨80, [], []⟩, .ext (.t 73) 1, none⟩,
  ⟨some ⟨19, [], []⟩, .bx 3 (.c (.agg [.sc (.int .i64 0), .sc (.int .i64 0), .sl true 1 []])), none⟩,
  ⟨none, .st 3 (.t 19) (.t 79), none⟩,
  ⟨some ⟨20, [], []⟩, .mv (.t 80), none⟩])
 (.seq (.reg [⟨some ⟨82, [], []⟩, .ld true 3 (.t 19), none⟩,
  ⟨some ⟨83, [], []⟩, .cp (.t 0), none⟩,
  ⟨some ⟨84, [], []⟩, .cp (.t 2), none⟩,
  ⟨some ⟨85, [], []⟩, .un .not (.t 84), none⟩,
  ⟨some ⟨86, [], []⟩, .ld true 2 (.t 9), none⟩,
  ⟨some ⟨87, [], []⟩, .call 9 [(.t 82), (.t 83), (.t 85), (.t 86)] 1, none⟩,
  ⟨some ⟨81, [], []⟩, .cp (.t 87), none⟩,
  ⟨some ⟨88, [], []⟩, .ext (.t 81) 0, none⟩,
  ⟨some ⟨89, [], []⟩, .ext (.t 81) 1, none⟩,
  ⟨some ⟨21, [], []⟩, .bx 3 (.c (.agg [.sc (.int .i64 0), .sc (.int .i64 0), .sl true 1 []])), none⟩,
  ⟨none, .st 3 (.t 21) (.t 88), none⟩,
  ⟨some ⟨22, [], []⟩, .mv (.t 89), none⟩])
 (.seq (.reg [⟨some ⟨90, [], []⟩, .cp (.t 12), none⟩,
  ⟨some ⟨91, [], []⟩, .cp (.t 18), none⟩,
  ⟨some ⟨92, [], []⟩, .beq false (.t 90) (.t 91), none⟩,
  ⟨some ⟨93, [], []⟩, .cp (.t 92), none⟩,
  ⟨some ⟨94, [], []⟩, .cp (.t 14), (some (93, true))⟩,
  ⟨some ⟨95, [], []⟩, .cp (.t 20), (some (93, true))⟩,
  ⟨some ⟨96, [], []⟩, .beq false (.t 94) (.t 95), (some (93, true))⟩,
  ⟨some ⟨97, [], []⟩, .pick (.t 93) (.t 96) (.c (.sc (.bool false))), none⟩,
  ⟨some ⟨98, [], []⟩, .cp (.t 97), none⟩,
  ⟨some ⟨99, [], []⟩, .cp (.t 16), (some (98, true))⟩,
  ⟨some ⟨100, [], []⟩, .cp (.t 22), (some (98, true))⟩,
  ⟨some ⟨101, [], []⟩, .beq false (.t 99) (.t 100), (some (98, true))⟩,
  ⟨some ⟨102, [], []⟩, .pick (.t 98) (.t 101) (.c (.sc (.bool false))), none⟩,
  ⟨some ⟨103, [], []⟩, .cp (.t 102), none⟩,
  ⟨some ⟨104, [], []⟩, .ld true 3 (.t 11), (some (103, true))⟩,
  ⟨some ⟨105, [], []⟩, .ld true 3 (.t 17), (some (103, true))⟩,
  ⟨some ⟨106, [], []⟩, .call 10 [(.t 104), (.t 105)] 0, (some (103, true))⟩,
  ⟨some ⟨107, [], []⟩, .pick (.t 103) (.t 106) (.c (.sc (.bool false))), none⟩,
  ⟨some ⟨108, [], []⟩, .cp (.t 107), none⟩,
  ⟨some ⟨109, [], []⟩, .ld true 3 (.t 13), (some (108, true))⟩,
  ⟨some ⟨110, [], []⟩, .ld true 3 (.t 19), (some (108, true))⟩,
  ⟨some ⟨111, [], []⟩, .call 10 [(.t 109), (.t 110)] 0, (some (108, true))⟩,
  ⟨some ⟨112, [], []⟩, .pick (.t 108) (.t 111) (.c (.sc (.bool false))), none⟩,
  ⟨some ⟨113, [], []⟩, .cp (.t 112), none⟩,
  ⟨some ⟨114, [], []⟩, .ld true 3 (.t 15), (some (113, true))⟩,
  ⟨some ⟨115, [], []⟩, .ld true 3 (.t 21), (some (113, true))⟩,
  ⟨some ⟨116, [], []⟩, .call 10 [(.t 114), (.t 115)] 0, (some (113, true))⟩,
  ⟨some ⟨117, [], []⟩, .pick (.t 113) (.t 116) (.c (.sc (.bool false))), none⟩,
  ⟨some ⟨118, [], []⟩, .cp (.t 117), none⟩,
  ⟨some ⟨119, [], []⟩, .call 12 [] 0, (some (118, true))⟩,
  ⟨some ⟨120, [], []⟩, .pick (.t 118) (.t 119) (.c (.sc (.bool false))), none⟩,
  ⟨some ⟨10, [], []⟩, .mv (.t 120), none⟩])
 .ret)))))))))
def f4g : Gi := ⟨[(23, [8]), (26, [8]), (30, [9]), (34, [9])]⟩
def f4r : List RV := [.tmp 10]
def f4 : FI := ⟨f4c, f4g, f4r⟩

theorem chk4 : chkF Try.prog Try.f4 f4 = true := by kernel_rfl

theorem setOf_id {l : List Int} (h : l.Pairwise (· < ·)) : setOf l = l := eq_of_sorted (setOf_sorted l) h (mem_setOf l)
theorem setOf_one (x : Int) : setOf [x] = [x] := setOf_id (by simp)

theorem awake_says : Says Try.prog 12 [] (sb true) := by
  refine says_of mix Try.func12 chk12 (of_decide_eq_true (by kernel_rfl)) rfl ?_
  have e1 : stepF 0 0 [] 0 true [0] [] = (1, 0, [], false) := rfl
  have e2 : stepF 1 0 [] 1 true [1] [] = (3, 0, [1], false) := by simp [stepF, lks, setOf_one]
  have e3 : stepF 3 0 [1] 0 true [0] [] = (3, 0, [], true) := by simp [stepF, lks, commonOf, setOf_one]
  have s1 := step_says 0 0 [] 0 true [0] [] (by simp) (by simp)
  have s2 := step_says 1 0 [] 1 true [1] [] (by simp) (by simp)
  have s3 := step_says 3 0 [1] 0 true [0] [] (by simp) (by simp)
  rw [e1] at s1
  rw [e2] at s2
  rw [e3] at s3
  simp only [f12, f12c, f12g, f12r, go_sem, reduceCtorEq, Nat.reduceEqDiff, reduceIte, Nat.reduceAdd, Int.reduceNeg, Nat.reduceBEq, Nat.reduceLT, Nat.reduceLeDiff, Nat.reduceSub, Nat.reduceMul, Int.reduceLT, Int.reduceLE, Int.reduceAdd, Int.reduceEq, Int.reduceBEq, Int.reduceToNat]
  refine ⟨_, s1, ?_⟩
  simp only [go_sem, reduceCtorEq, Nat.reduceEqDiff, reduceIte, Nat.reduceAdd, Int.reduceNeg, Nat.reduceBEq, Nat.reduceLT, Nat.reduceLeDiff, Nat.reduceSub, Nat.reduceMul, Int.reduceLT, Int.reduceLE, Int.reduceAdd, Int.reduceEq, Int.reduceBEq, Int.reduceToNat, stepR, ints_nil]
  refine ⟨_, s2, ?_⟩
  simp only [go_sem, reduceCtorEq, Nat.reduceEqDiff, reduceIte, Nat.reduceAdd, Int.reduceNeg, Nat.reduceBEq, Nat.reduceLT, Nat.reduceLeDiff, Nat.reduceSub, Nat.reduceMul, Int.reduceLT, Int.reduceLE, Int.reduceAdd, Int.reduceEq, Int.reduceBEq, Int.reduceToNat, stepR, ints_nil]
  refine ⟨_, s3, ?_⟩
  simp only [go_sem, reduceCtorEq, Nat.reduceEqDiff, reduceIte, Nat.reduceAdd, Int.reduceNeg, Nat.reduceBEq, Nat.reduceLT, Nat.reduceLeDiff, Nat.reduceSub, Nat.reduceMul, Int.reduceLT, Int.reduceLE, Int.reduceAdd, Int.reduceEq, Int.reduceBEq, Int.reduceToNat, stepR, ints_nil]
  refine ⟨_, equal_says [1] [1] (by simp), ?_⟩
  simp only [go_sem, reduceCtorEq, Nat.reduceEqDiff, reduceIte, Nat.reduceAdd, Int.reduceNeg, Nat.reduceBEq, Nat.reduceLT, Nat.reduceLeDiff, Nat.reduceSub, Nat.reduceMul, Int.reduceLT, Int.reduceLE, Int.reduceAdd, Int.reduceEq, Int.reduceBEq, Int.reduceToNat]

theorem lawExcludes (aE aS bE bS : List Int) (h1 : aE.length < 1000000000000000) (h2 : aS.length < 1000000000000000) (h3 : bE.length < 1000000000000000) (h4 : bS.length < 1000000000000000) :
    Says Try.prog 6 [heA aE aS, heA bE bS] (sb true) := by
  refine says_of mix Try.func6 chk6 (of_decide_eq_true (by kernel_rfl)) rfl ?_
  have w1 : IntKind.i64.wrap ((aE.length : Int) + (aS.length : Int)) = ((aE.length + aS.length : Nat) : Int) := by have := wrap_nat (n := aE.length + aS.length) (by omega); simpa using this
  have w2 : IntKind.i64.wrap (((aE.length + aS.length : Nat) : Int) + (bE.length : Int)) = ((aE.length + aS.length + bE.length : Nat) : Int) := by have := wrap_nat (n := aE.length + aS.length + bE.length) (by omega); simpa using this
  have w3 : IntKind.i64.wrap (((aE.length + aS.length + bE.length : Nat) : Int) + (bS.length : Int)) = ((aE.length + aS.length + bE.length + bS.length : Nat) : Int) := by have := wrap_nat (n := aE.length + aS.length + bE.length + bS.length) (by omega); simpa using this
  by_cases hlt : aE.length + aS.length + bE.length + bS.length > 100
  · have hdc : decide (((aE.length + aS.length + bE.length + bS.length : Nat) : Int) > 100) = true := by simp only [decide_eq_true_eq]; omega
    simp only [f6, f6c, f6g, f6r, go_sem, reduceCtorEq, Nat.reduceEqDiff, reduceIte, Nat.reduceAdd, Int.reduceNeg, Nat.reduceBEq, Nat.reduceLT, Nat.reduceLeDiff, Nat.reduceSub, Nat.reduceMul, Int.reduceLT, Int.reduceLE, Int.reduceAdd, Int.reduceEq, Int.reduceBEq, Int.reduceToNat, ints_length, w1, w2, w3, hdc]
    refine ⟨_, awake_says, ?_⟩
    simp only [go_sem, reduceCtorEq, Nat.reduceEqDiff, reduceIte, Nat.reduceAdd, Int.reduceNeg, Nat.reduceBEq, Nat.reduceLT, Nat.reduceLeDiff, Nat.reduceSub, Nat.reduceMul, Int.reduceLT, Int.reduceLE, Int.reduceAdd, Int.reduceEq, Int.reduceBEq, Int.reduceToNat]
  · have hdc : decide (((aE.length + aS.length + bE.length + bS.length : Nat) : Int) > 100) = false := by simp only [decide_eq_false_iff_not]; omega
    have x1 := exclR_says aE aS bE bS (by omega) (by omega) (by omega) (by omega)
    have x2 := exclI_says aE aS bE bS (by omega) (by omega) (by omega) (by omega)
    have x3 := exclI_says bE bS aE aS (by omega) (by omega) (by omega) (by omega)
    rw [excl_eq] at x2 x3
    rw [exclF_comm] at x3
    simp only [f6, f6c, f6g, f6r, go_sem, reduceCtorEq, Nat.reduceEqDiff, reduceIte, Nat.reduceAdd, Int.reduceNeg, Nat.reduceBEq, Nat.reduceLT, Nat.reduceLeDiff, Nat.reduceSub, Nat.reduceMul, Int.reduceLT, Int.reduceLE, Int.reduceAdd, Int.reduceEq, Int.reduceBEq, Int.reduceToNat, ints_length, w1, w2, w3, hdc]
    refine ⟨_, x1, ?_⟩
    simp only [go_sem, reduceCtorEq, Nat.reduceEqDiff, reduceIte, Nat.reduceAdd, Int.reduceNeg, Nat.reduceBEq, Nat.reduceLT, Nat.reduceLeDiff, Nat.reduceSub, Nat.reduceMul, Int.reduceLT, Int.reduceLE, Int.reduceAdd, Int.reduceEq, Int.reduceBEq, Int.reduceToNat]
    refine ⟨_, x2, ?_⟩
    simp only [go_sem, reduceCtorEq, Nat.reduceEqDiff, reduceIte, Nat.reduceAdd, Int.reduceNeg, Nat.reduceBEq, Nat.reduceLT, Nat.reduceLeDiff, Nat.reduceSub, Nat.reduceMul, Int.reduceLT, Int.reduceLE, Int.reduceAdd, Int.reduceEq, Int.reduceBEq, Int.reduceToNat]
    refine ⟨_, x3, ?_⟩
    simp only [go_sem, reduceCtorEq, Nat.reduceEqDiff, reduceIte, Nat.reduceAdd, Int.reduceNeg, Nat.reduceBEq, Nat.reduceLT, Nat.reduceLeDiff, Nat.reduceSub, Nat.reduceMul, Int.reduceLT, Int.reduceLE, Int.reduceAdd, Int.reduceEq, Int.reduceBEq, Int.reduceToNat]
    refine ⟨_, awake_says, ?_⟩
    simp only [go_sem, reduceCtorEq, Nat.reduceEqDiff, reduceIte, Nat.reduceAdd, Int.reduceNeg, Nat.reduceBEq, Nat.reduceLT, Nat.reduceLeDiff, Nat.reduceSub, Nat.reduceMul, Int.reduceLT, Int.reduceLE, Int.reduceAdd, Int.reduceEq, Int.reduceBEq, Int.reduceToNat]

theorem common_sorted {L X : List Int} (h : L.Pairwise (· < ·)) : commonOf L X = L.filter fun x => (setOf X).contains x := by
  unfold commonOf; rw [setOf_id h]
theorem step_eq (st ow : Int) (L : List Int) (th : Int) (wr : Bool) (E S : List Int) (hst : st = 0 ∨ st = 1 ∨ st = 2 ∨ st = 3) (hL : L.Pairwise (· < ·)) : erasF st ow L th wr E S = stepF st ow L th wr E S := by
  rcases hst with rfl | rfl | rfl | rfl
  · simp [erasF, stepF]
  · cases wr
    · by_cases h : ow = th
      · simp [erasF, stepF, h]
      · have h' : ¬ th = ow := fun e => h e.symm
        simp [erasF, stepF, h, h', lks]
    · by_cases h : ow = th
      · simp [erasF, stepF, h]
      · have h' : ¬ th = ow := fun e => h e.symm
        simp [erasF, stepF, h, h', lks]
  · cases wr <;> simp [erasF, stepF, lks, common_sorted hL]
  · cases wr <;> simp [erasF, stepF, lks, common_sorted hL]
theorem step_facts (st ow : Int) (L : List Int) (th : Int) (wr : Bool) (E S : List Int) (hst : st = 0 ∨ st = 1 ∨ st = 2 ∨ st = 3) (hL : L.Pairwise (· < ·)) :
    let r := stepF st ow L th wr E S
    (r.1 = 0 ∨ r.1 = 1 ∨ r.1 = 2 ∨ r.1 = 3) ∧ r.2.2.1.Pairwise (· < ·) ∧ r.2.2.1.length ≤ L.length + (E.length + S.length) := by
  have hset := setOf_length (lks wr E S)
  have hlk : (lks wr E S).length ≤ E.length + S.length := by unfold lks; split <;> simp
  have hcf : (commonOf L (lks wr E S)).length ≤ L.length := by rw [common_sorted hL]; exact List.length_filter_le _ _
  have hcs : (commonOf L (lks wr E S)).Pairwise (· < ·) := by rw [common_sorted hL]; exact hL.filter _
  rcases hst with rfl | rfl | rfl | rfl
  · simp [stepF]
  · by_cases h : th = ow
    · simp [stepF, h]
    · have h10 : ¬ ((1 : Int) = 0) := by decide
      simp only [stepF, h, h10, if_false, if_true]
      refine ⟨by cases wr <;> simp, setOf_sorted _, by omega⟩
  · simp only [stepF]
    refine ⟨by cases wr <;> simp, by simpa using hcs, by simp; omega⟩
  · simp only [stepF]
    refine ⟨by cases wr <;> simp, by simpa using hcs, by simp; omega⟩


theorem lawUnsorted (x y : Int) (wt : Bool) (hE' hS' gE gS : List Int) (h1 : hE'.length < 1000000000000000) (h2 : hS'.length < 1000000000000000) (h3 : gE.length < 1000000000000000) (h4 : gS.length < 1000000000000000) :
    Says Try.prog 4 [si x, si y, sb wt, heA hE' hS', heA gE gS] (sb true) := by
  refine says_of mix Try.func4 chk4 (of_decide_eq_true (by kernel_rfl)) rfl ?_
  have w1 : IntKind.i64.wrap ((hE'.length : Int) + (hS'.length : Int)) = ((hE'.length + hS'.length : Nat) : Int) := by have := wrap_nat (n := hE'.length + hS'.length) (by omega); simpa using this
  have w2 : IntKind.i64.wrap (((hE'.length + hS'.length : Nat) : Int) + (gE.length : Int)) = ((hE'.length + hS'.length + gE.length : Nat) : Int) := by have := wrap_nat (n := hE'.length + hS'.length + gE.length) (by omega); simpa using this
  have w3 : IntKind.i64.wrap (((hE'.length + hS'.length + gE.length : Nat) : Int) + (gS.length : Int)) = ((hE'.length + hS'.length + gE.length + gS.length : Nat) : Int) := by have := wrap_nat (n := hE'.length + hS'.length + gE.length + gS.length) (by omega); simpa using this
  by_cases hlt : hE'.length + hS'.length + gE.length + gS.length > 60
  · have hdc : decide (((hE'.length + hS'.length + gE.length + gS.length : Nat) : Int) > 60) = true := by simp only [decide_eq_true_eq]; omega
    simp only [f4, f4c, f4g, f4r, go_sem, reduceCtorEq, Nat.reduceEqDiff, reduceIte, Nat.reduceAdd, Int.reduceNeg, Nat.reduceBEq, Nat.reduceLT, Nat.reduceLeDiff, Nat.reduceSub, Nat.reduceMul, Int.reduceLT, Int.reduceLE, Int.reduceAdd, Int.reduceEq, Int.reduceBEq, Int.reduceToNat, ints_length, w1, w2, w3, hdc]
    refine ⟨_, awake_says, ?_⟩
    simp only [go_sem, reduceCtorEq, Nat.reduceEqDiff, reduceIte, Nat.reduceAdd, Int.reduceNeg, Nat.reduceBEq, Nat.reduceLT, Nat.reduceLeDiff, Nat.reduceSub, Nat.reduceMul, Int.reduceLT, Int.reduceLE, Int.reduceAdd, Int.reduceEq, Int.reduceBEq, Int.reduceToNat]
  · have hdc : decide (((hE'.length + hS'.length + gE.length + gS.length : Nat) : Int) > 60) = false := by simp only [decide_eq_false_iff_not]; omega
    have a1 := step_says 0 0 [] x wt hE' hS' (by simp) (by omega)
    have b1 := eraser_says 0 0 [] x wt hE' hS' (by simp) (by omega)
    rw [step_eq 0 0 [] x wt hE' hS' (by simp) (by simp)] at b1
    obtain ⟨p1, q1, r1⟩ := step_facts 0 0 [] x wt hE' hS' (by simp) (by simp)
    generalize stepF 0 0 [] x wt hE' hS' = s1 at a1 b1 p1 q1 r1
    obtain ⟨st1, ow1, L1, wn1⟩ := s1
    simp only at p1 q1 r1
    simp only [List.length_nil] at r1
    have a2 := step_says st1 ow1 L1 y wt hE' hS' (by omega) (by omega)
    have b2 := eraser_says st1 ow1 L1 y wt hE' hS' (by omega) (by omega)
    rw [step_eq st1 ow1 L1 y wt hE' hS' p1 q1] at b2
    obtain ⟨p2, q2, r2⟩ := step_facts st1 ow1 L1 y wt hE' hS' p1 q1
    generalize stepF st1 ow1 L1 y wt hE' hS' = s2 at a2 b2 p2 q2 r2
    obtain ⟨st2, ow2, L2, wn2⟩ := s2
    simp only at p2 q2 r2
    have a3 := step_says st2 ow2 L2 x (!wt) gE gS (by omega) (by omega)
    have b3 := eraser_says st2 ow2 L2 x (!wt) gE gS (by omega) (by omega)
    rw [step_eq st2 ow2 L2 x (!wt) gE gS p2 q2] at b3
    obtain ⟨p3, q3, r3⟩ := step_facts st2 ow2 L2 x (!wt) gE gS p2 q2
    generalize stepF st2 ow2 L2 x (!wt) gE gS = s3 at a3 b3 p3 q3 r3
    obtain ⟨st3, ow3, L3, wn3⟩ := s3
    simp only at p3 q3 r3
    simp only [stepR] at a1 a2 a3 b1 b2 b3
    simp only [f4, f4c, f4g, f4r, go_sem, reduceCtorEq, Nat.reduceEqDiff, reduceIte, Nat.reduceAdd, Int.reduceNeg, Nat.reduceBEq, Nat.reduceLT, Nat.reduceLeDiff, Nat.reduceSub, Nat.reduceMul, Int.reduceLT, Int.reduceLE, Int.reduceAdd, Int.reduceEq, Int.reduceBEq, Int.reduceToNat, ints_length, w1, w2, w3, hdc]
    refine ⟨_, a1, ?_⟩
    simp only [go_sem, reduceCtorEq, Nat.reduceEqDiff, reduceIte, Nat.reduceAdd, Int.reduceNeg, Nat.reduceBEq, Nat.reduceLT, Nat.reduceLeDiff, Nat.reduceSub, Nat.reduceMul, Int.reduceLT, Int.reduceLE, Int.reduceAdd, Int.reduceEq, Int.reduceBEq, Int.reduceToNat]
    refine ⟨_, a2, ?_⟩
    simp only [go_sem, reduceCtorEq, Nat.reduceEqDiff, reduceIte, Nat.reduceAdd, Int.reduceNeg, Nat.reduceBEq, Nat.reduceLT, Nat.reduceLeDiff, Nat.reduceSub, Nat.reduceMul, Int.reduceLT, Int.reduceLE, Int.reduceAdd, Int.reduceEq, Int.reduceBEq, Int.reduceToNat]
    refine ⟨_, a3, ?_⟩
    simp only [go_sem, reduceCtorEq, Nat.reduceEqDiff, reduceIte, Nat.reduceAdd, Int.reduceNeg, Nat.reduceBEq, Nat.reduceLT, Nat.reduceLeDiff, Nat.reduceSub, Nat.reduceMul, Int.reduceLT, Int.reduceLE, Int.reduceAdd, Int.reduceEq, Int.reduceBEq, Int.reduceToNat]
    refine ⟨_, b1, ?_⟩
    simp only [go_sem, reduceCtorEq, Nat.reduceEqDiff, reduceIte, Nat.reduceAdd, Int.reduceNeg, Nat.reduceBEq, Nat.reduceLT, Nat.reduceLeDiff, Nat.reduceSub, Nat.reduceMul, Int.reduceLT, Int.reduceLE, Int.reduceAdd, Int.reduceEq, Int.reduceBEq, Int.reduceToNat]
    refine ⟨_, b2, ?_⟩
    simp only [go_sem, reduceCtorEq, Nat.reduceEqDiff, reduceIte, Nat.reduceAdd, Int.reduceNeg, Nat.reduceBEq, Nat.reduceLT, Nat.reduceLeDiff, Nat.reduceSub, Nat.reduceMul, Int.reduceLT, Int.reduceLE, Int.reduceAdd, Int.reduceEq, Int.reduceBEq, Int.reduceToNat]
    refine ⟨_, b3, ?_⟩
    simp only [go_sem, reduceCtorEq, Nat.reduceEqDiff, reduceIte, Nat.reduceAdd, Int.reduceNeg, Nat.reduceBEq, Nat.reduceLT, Nat.reduceLeDiff, Nat.reduceSub, Nat.reduceMul, Int.reduceLT, Int.reduceLE, Int.reduceAdd, Int.reduceEq, Int.reduceBEq, Int.reduceToNat]
    refine ⟨_, sameEraser_says st1 ow1 L1 st1 ow1 L1 (by omega), ?_⟩
    simp only [go_sem, reduceCtorEq, Nat.reduceEqDiff, reduceIte, Nat.reduceAdd, Int.reduceNeg, Nat.reduceBEq, Nat.reduceLT, Nat.reduceLeDiff, Nat.reduceSub, Nat.reduceMul, Int.reduceLT, Int.reduceLE, Int.reduceAdd, Int.reduceEq, Int.reduceBEq, Int.reduceToNat]
    refine ⟨_, sameEraser_says st2 ow2 L2 st2 ow2 L2 (by omega), ?_⟩
    simp only [go_sem, reduceCtorEq, Nat.reduceEqDiff, reduceIte, Nat.reduceAdd, Int.reduceNeg, Nat.reduceBEq, Nat.reduceLT, Nat.reduceLeDiff, Nat.reduceSub, Nat.reduceMul, Int.reduceLT, Int.reduceLE, Int.reduceAdd, Int.reduceEq, Int.reduceBEq, Int.reduceToNat]
    refine ⟨_, sameEraser_says st3 ow3 L3 st3 ow3 L3 (by omega), ?_⟩
    simp only [go_sem, reduceCtorEq, Nat.reduceEqDiff, reduceIte, Nat.reduceAdd, Int.reduceNeg, Nat.reduceBEq, Nat.reduceLT, Nat.reduceLeDiff, Nat.reduceSub, Nat.reduceMul, Int.reduceLT, Int.reduceLE, Int.reduceAdd, Int.reduceEq, Int.reduceBEq, Int.reduceToNat]
    refine ⟨_, awake_says, ?_⟩
    simp only [go_sem, reduceCtorEq, Nat.reduceEqDiff, reduceIte, Nat.reduceAdd, Int.reduceNeg, Nat.reduceBEq, Nat.reduceLT, Nat.reduceLeDiff, Nat.reduceSub, Nat.reduceMul, Int.reduceLT, Int.reduceLE, Int.reduceAdd, Int.reduceEq, Int.reduceBEq, Int.reduceToNat]
end Go.Abs
