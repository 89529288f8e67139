/- Part 4 of the proof: an executor over a compiled form of the functions of this program, that it is right, and what it computes (see the last part). -/
import Derived.Test.YtlcgnmdlggfelaaDoorK3
set_option linter.all false
namespace Go.Den.IrD
open Go Go.Den
abbrev I (n : Int) : Value := .int .i64 n
abbrev S (l : List UInt8) : Value := .string ⟨l.toArray⟩
abbrev Fn (f : Nat) : Value := .func (.func f) #[] #[]
abbrev t (n : Nat) : Arg := .tmp n
abbrev v (x : Value) : Arg := .val x

/- raddle/raddlelaw23.FlowGraphs -/
def ir3 : IFunc := ⟨53, [.tmp 2],
  (.seq (.ops [⟨(some 2), none, .mov (v (.bool false))⟩])
  (.seq (.seq (.ops [⟨(some 9), none, .mov (t 0)⟩,
    ⟨(some 10), none, .lenSl (t 9)⟩,
    ⟨(some 11), none, .arith .gtr (t 10) (v (I 25))⟩,
    ⟨(some 12), none, .mov (t 11)⟩,
    ⟨(some 13), some (12, false), .mov (t 0)⟩,
    ⟨(some 14), some (12, false), .call (v (Fn 6)) [(t 13), (v (Fn 7))]⟩,
    ⟨(some 15), none, .pick (t 12) (v (.bool true)) (t 14)⟩])
  (.cond (t 15)
    (.seq (.ops [⟨(some 16), none, .call (v (Fn 8)) []⟩,
      ⟨(some 2), none, .mov (t 16)⟩])
    .ret)
    .skip))
  (.seq (.ops [⟨(some 3), none, .mov (v (.slice none 0 0))⟩])
  (.seq (.seq (.ops [⟨(some 17), none, .mov (t 0)⟩,
    ⟨(some 18), none, .lenSl (t 17)⟩,
    ⟨(some 19), none, .mov (v (I 0))⟩])
  (.block 0
    (.loop
      (.seq (.ops [⟨(some 20), none, .arith .lss (t 19) (t 18)⟩])
      (.seq (.cond (t 20)
        .skip
        (.exit 0))
      (.seq (.block 1
        (.seq (.ops [⟨(some 21), none, .indexAddr 3 (t 17) (t 19)⟩,
          ⟨(some 22), none, .load (some 3) (t 21)⟩,
          ⟨(some 5), none, .box 26 (v (.agg #[(I 0), (I 0), (.slice none 0 0)]))⟩,
          ⟨none, none, .store 3 (t 5) (t 22)⟩])
        (.ops [⟨(some 23), none, .mov (t 3)⟩,
          ⟨(some 24), none, .load (some 3) (t 5)⟩,
          ⟨(some 25), none, .buildSlice 30 1 [(I 0), (I 0), (.slice none 0 0)] [(0, 3, (t 24))]⟩,
          ⟨(some 26), none, .append 30 3 40 (t 23) (t 25)⟩,
          ⟨(some 3), none, .mov (t 26)⟩])))
      (.ops [⟨(some 27), none, .arith .add (t 19) (v (I 1))⟩,
        ⟨(some 19), none, .mov (t 27)⟩])))))))
  (.seq (.ops [⟨(some 28), none, .mov (t 3)⟩,
    ⟨(some 29), none, .call (v (Fn 9)) [(t 28)]⟩,
    ⟨(some 30), none, .mov (t 0)⟩,
    ⟨(some 31), none, .call (v (Fn 10)) [(t 30)]⟩,
    ⟨(some 6), none, .mov (t 29)⟩,
    ⟨(some 7), none, .mov (t 31)⟩])
  (.seq (.ops [⟨(some 32), none, .mov (t 6)⟩,
    ⟨(some 33), none, .mov (t 7)⟩,
    ⟨(some 34), none, .call (v (Fn 11)) [(t 32), (t 33), (v (Fn 12))]⟩,
    ⟨(some 8), none, .mov (t 34)⟩])
  (.seq (.ops [⟨(some 35), none, .mov (t 3)⟩,
    ⟨(some 36), none, .call (v (Fn 15)) [(t 35)]⟩,
    ⟨(some 37), none, .mov (t 0)⟩,
    ⟨(some 38), none, .call (v (Fn 16)) [(t 37)]⟩,
    ⟨(some 39), none, .call (v (Fn 14)) [(t 36), (t 38)]⟩,
    ⟨(some 40), none, .mov (t 39)⟩,
    ⟨(some 41), some (40, true), .mov (t 3)⟩,
    ⟨(some 42), some (40, true), .call (v (Fn 17)) [(t 41)]⟩,
    ⟨(some 43), some (40, true), .mov (t 0)⟩,
    ⟨(some 44), some (40, true), .call (v (Fn 18)) [(t 43)]⟩,
    ⟨(some 45), some (40, true), .call (v (Fn 13)) [(t 42), (t 44)]⟩,
    ⟨(some 46), none, .pick (t 40) (t 45) (v (.bool false))⟩,
    ⟨(some 47), none, .mov (t 46)⟩,
    ⟨(some 48), some (47, true), .mov (t 8)⟩,
    ⟨(some 49), none, .pick (t 47) (t 48) (v (.bool false))⟩,
    ⟨(some 50), none, .mov (t 49)⟩,
    ⟨(some 51), some (50, true), .call (v (Fn 8)) []⟩,
    ⟨(some 52), none, .pick (t 50) (t 51) (v (.bool false))⟩,
    ⟨(some 2), none, .mov (t 52)⟩])
  .ret)))))))⟩

/- raddle/raddlelaw23.FlowDominates -/
def ir4 : IFunc := ⟨147, [.tmp 2],
  (.seq (.ops [⟨(some 2), none, .mov (v (.bool false))⟩])
  (.seq (.seq (.ops [⟨(some 14), none, .mov (t 0)⟩,
    ⟨(some 15), none, .lenSl (t 14)⟩,
    ⟨(some 16), none, .arith .gtr (t 15) (v (I 25))⟩,
    ⟨(some 17), none, .mov (t 16)⟩,
    ⟨(some 18), some (17, false), .mov (t 0)⟩,
    ⟨(some 19), some (17, false), .call (v (Fn 6)) [(t 18), (v (Fn 19))]⟩,
    ⟨(some 20), none, .pick (t 17) (v (.bool true)) (t 19)⟩])
  (.cond (t 20)
    (.seq (.ops [⟨(some 21), none, .call (v (Fn 8)) []⟩,
      ⟨(some 2), none, .mov (t 21)⟩])
    .ret)
    .skip))
  (.seq (.ops [⟨(some 3), none, .mov (v (.slice none 0 0))⟩])
  (.seq (.seq (.ops [⟨(some 22), none, .mov (t 0)⟩,
    ⟨(some 23), none, .lenSl (t 22)⟩,
    ⟨(some 24), none, .mov (v (I 0))⟩])
  (.block 0
    (.loop
      (.seq (.ops [⟨(some 25), none, .arith .lss (t 24) (t 23)⟩])
      (.seq (.cond (t 25)
        .skip
        (.exit 0))
      (.seq (.block 1
        (.seq (.ops [⟨(some 26), none, .indexAddr 3 (t 22) (t 24)⟩,
          ⟨(some 27), none, .load (some 3) (t 26)⟩,
          ⟨(some 5), none, .box 26 (v (.agg #[(I 0), (I 0), (.slice none 0 0)]))⟩,
          ⟨none, none, .store 3 (t 5) (t 27)⟩])
        (.ops [⟨(some 28), none, .mov (t 3)⟩,
          ⟨(some 29), none, .load (some 3) (t 5)⟩,
          ⟨(some 30), none, .buildSlice 30 1 [(I 0), (I 0), (.slice none 0 0)] [(0, 3, (t 29))]⟩,
          ⟨(some 31), none, .append 30 3 40 (t 28) (t 30)⟩,
          ⟨(some 3), none, .mov (t 31)⟩])))
      (.ops [⟨(some 32), none, .arith .add (t 24) (v (I 1))⟩,
        ⟨(some 24), none, .mov (t 32)⟩])))))))
  (.seq (.ops [⟨(some 33), none, .mov (t 3)⟩,
    ⟨(some 34), none, .call (v (Fn 15)) [(t 33)]⟩,
    ⟨(some 35), none, .mov (t 3)⟩,
    ⟨(some 36), none, .call (v (Fn 17)) [(t 35)]⟩,
    ⟨(some 6), none, .mov (t 34)⟩,
    ⟨(some 7), none, .mov (t 36)⟩])
  (.seq (.seq (.ops [⟨(some 37), none, .mov (t 6)⟩,
    ⟨(some 38), none, .lenSl (t 37)⟩,
    ⟨(some 39), none, .mov (t 3)⟩,
    ⟨(some 40), none, .lenSl (t 39)⟩,
    ⟨(some 41), none, .arith .neq (t 38) (t 40)⟩,
    ⟨(some 42), none, .mov (t 41)⟩,
    ⟨(some 43), some (42, false), .mov (t 7)⟩,
    ⟨(some 44), some (42, false), .lenSl (t 43)⟩,
    ⟨(some 45), some (42, false), .mov (t 3)⟩,
    ⟨(some 46), some (42, false), .lenSl (t 45)⟩,
    ⟨(some 47), some (42, false), .arith .neq (t 44) (t 46)⟩,
    ⟨(some 48), none, .pick (t 42) (v (.bool true)) (t 47)⟩])
  (.cond (t 48)
    (.seq (.ops [⟨(some 2), none, .mov (v (.bool false))⟩])
    .ret)
    .skip))
  (.seq (.seq (.ops [⟨(some 49), none, .mov (t 3)⟩,
    ⟨(some 50), none, .lenSl (t 49)⟩,
    ⟨(some 51), none, .mov (v (I 0))⟩])
  (.block 2
    (.loop
      (.seq (.ops [⟨(some 52), none, .arith .lss (t 51) (t 50)⟩])
      (.seq (.cond (t 52)
        .skip
        (.exit 2))
      (.seq (.block 3
        (.seq (.ops [⟨(some 53), none, .mov (t 51)⟩,
          ⟨(some 8), none, .mov (t 53)⟩])
        (.seq (.seq (.ops [⟨(some 54), none, .mov (t 6)⟩,
          ⟨(some 55), none, .mov (t 8)⟩,
          ⟨(some 56), none, .indexAddr 1 (t 54) (t 55)⟩,
          ⟨(some 57), none, .load none (t 56)⟩,
          ⟨(some 58), none, .un .not (t 57)⟩,
          ⟨(some 59), none, .mov (t 58)⟩,
          ⟨(some 60), some (59, false), .mov (t 8)⟩,
          ⟨(some 61), some (59, false), .arith .eql (t 60) (v (I 0))⟩,
          ⟨(some 62), none, .pick (t 59) (v (.bool true)) (t 61)⟩])
        (.cond (t 62)
          (.seq (.seq (.ops [⟨(some 63), none, .mov (t 7)⟩,
            ⟨(some 64), none, .mov (t 8)⟩,
            ⟨(some 65), none, .indexAddr 1 (t 63) (t 64)⟩,
            ⟨(some 66), none, .load none (t 65)⟩,
            ⟨(some 67), none, .arith .neq (t 66) (v (I (-1)))⟩])
          (.cond (t 67)
            (.seq (.ops [⟨(some 2), none, .mov (v (.bool false))⟩])
            .ret)
            .skip))
          (.exit 3))
          .skip))
        (.seq (.ops [⟨(some 68), none, .mov (t 7)⟩,
          ⟨(some 69), none, .mov (t 8)⟩,
          ⟨(some 70), none, .indexAddr 1 (t 68) (t 69)⟩,
          ⟨(some 71), none, .load none (t 70)⟩,
          ⟨(some 9), none, .mov (t 71)⟩])
        (.seq (.seq (.ops [⟨(some 72), none, .mov (t 9)⟩,
          ⟨(some 73), none, .arith .lss (t 72) (v (I 0))⟩,
          ⟨(some 74), none, .mov (t 73)⟩,
          ⟨(some 75), some (74, false), .mov (t 9)⟩,
          ⟨(some 76), some (74, false), .mov (t 3)⟩,
          ⟨(some 77), some (74, false), .lenSl (t 76)⟩,
          ⟨(some 78), some (74, false), .arith .geq (t 75) (t 77)⟩,
          ⟨(some 79), none, .pick (t 74) (v (.bool true)) (t 78)⟩,
          ⟨(some 80), none, .mov (t 79)⟩,
          ⟨(some 81), some (80, false), .mov (t 9)⟩,
          ⟨(some 82), some (80, false), .mov (t 8)⟩,
          ⟨(some 83), some (80, false), .arith .eql (t 81) (t 82)⟩,
          ⟨(some 84), none, .pick (t 80) (v (.bool true)) (t 83)⟩,
          ⟨(some 85), none, .mov (t 84)⟩,
          ⟨(some 86), some (85, false), .mov (t 6)⟩,
          ⟨(some 87), some (85, false), .mov (t 9)⟩,
          ⟨(some 88), some (85, false), .indexAddr 1 (t 86) (t 87)⟩,
          ⟨(some 89), some (85, false), .load none (t 88)⟩,
          ⟨(some 90), some (85, false), .un .not (t 89)⟩,
          ⟨(some 91), none, .pick (t 85) (v (.bool true)) (t 90)⟩])
        (.cond (t 91)
          (.seq (.ops [⟨(some 2), none, .mov (v (.bool false))⟩])
          .ret)
          .skip))
        (.seq (.seq (.ops [⟨(some 92), none, .mov (t 9)⟩,
          ⟨(some 93), none, .arith .eql (t 92) (v (I 0))⟩])
        (.cond (t 93)
          (.exit 3)
          .skip))
        (.seq (.ops [⟨(some 94), none, .mov (t 3)⟩,
          ⟨(some 95), none, .call (v (Fn 20)) [(t 94)]⟩,
          ⟨(some 10), none, .mov (t 95)⟩])
        (.seq (.ops [⟨(some 96), none, .mov (t 10)⟩,
          ⟨(some 97), none, .mov (t 9)⟩,
          ⟨(some 98), none, .indexAddr 3 (t 96) (t 97)⟩,
          ⟨(some 99), none, .fieldAddr 2 (t 98)⟩,
          ⟨none, none, .store 1 (t 99) (v (.slice none 0 0))⟩])
        (.seq (.ops [⟨(some 100), none, .mov (t 10)⟩,
          ⟨(some 101), none, .call (v (Fn 15)) [(t 100)]⟩,
          ⟨(some 11), none, .mov (t 101)⟩])
        (.seq (.ops [⟨(some 102), none, .mov (t 11)⟩,
          ⟨(some 103), none, .lenSl (t 102)⟩,
          ⟨(some 104), none, .mov (t 3)⟩,
          ⟨(some 105), none, .lenSl (t 104)⟩,
          ⟨(some 106), none, .arith .neq (t 103) (t 105)⟩,
          ⟨(some 107), none, .mov (t 106)⟩,
          ⟨(some 108), some (107, false), .mov (t 11)⟩,
          ⟨(some 109), some (107, false), .mov (t 8)⟩,
          ⟨(some 110), some (107, false), .indexAddr 1 (t 108) (t 109)⟩,
          ⟨(some 111), some (107, false), .load none (t 110)⟩,
          ⟨(some 112), none, .pick (t 107) (v (.bool true)) (t 111)⟩])
        (.cond (t 112)
          (.seq (.ops [⟨(some 2), none, .mov (v (.bool false))⟩])
          .ret)
          .skip)))))))))))
      (.ops [⟨(some 113), none, .arith .add (t 51) (v (I 1))⟩,
        ⟨(some 51), none, .mov (t 113)⟩])))))))
  (.seq (.seq (.ops [⟨(some 114), none, .mov (t 3)⟩,
    ⟨(some 115), none, .call (v (Fn 9)) [(t 114)]⟩,
    ⟨(some 116), none, .lenSl (t 115)⟩,
    ⟨(some 117), none, .mov (v (I 0))⟩])
  (.block 4
    (.loop
      (.seq (.ops [⟨(some 118), none, .arith .lss (t 117) (t 116)⟩])
      (.seq (.cond (t 118)
        .skip
        (.exit 4))
      (.seq (.block 5
        (.seq (.ops [⟨(some 119), none, .indexAddr 2 (t 115) (t 117)⟩,
          ⟨(some 120), none, .load (some 2) (t 119)⟩,
          ⟨(some 13), none, .box 37 (v (.agg #[(I 0), (.slice none 0 0)]))⟩,
          ⟨none, none, .store 2 (t 13) (t 120)⟩])
        (.seq (.ops [⟨(some 121), none, .fieldAddr 0 (t 13)⟩,
          ⟨(some 122), none, .load none (t 121)⟩,
          ⟨(some 123), none, .arith .lss (t 122) (v (I 0))⟩,
          ⟨(some 124), none, .mov (t 123)⟩,
          ⟨(some 125), some (124, false), .fieldAddr 0 (t 13)⟩,
          ⟨(some 126), some (124, false), .load none (t 125)⟩,
          ⟨(some 127), some (124, false), .mov (t 3)⟩,
          ⟨(some 128), some (124, false), .lenSl (t 127)⟩,
          ⟨(some 129), some (124, false), .arith .geq (t 126) (t 128)⟩,
          ⟨(some 130), none, .pick (t 124) (v (.bool true)) (t 129)⟩,
          ⟨(some 131), none, .mov (t 130)⟩,
          ⟨(some 132), some (131, false), .fieldAddr 1 (t 13)⟩,
          ⟨(some 133), some (131, false), .load none (t 132)⟩,
          ⟨(some 134), some (131, false), .fieldAddr 0 (t 13)⟩,
          ⟨(some 135), some (131, false), .load none (t 134)⟩,
          ⟨(some 136), some (131, false), .call (v (Fn 21)) [(t 133), (t 135)]⟩,
          ⟨(some 137), some (131, false), .un .not (t 136)⟩,
          ⟨(some 138), none, .pick (t 131) (v (.bool true)) (t 137)⟩,
          ⟨(some 139), none, .mov (t 138)⟩,
          ⟨(some 140), some (139, false), .fieldAddr 1 (t 13)⟩,
          ⟨(some 141), some (139, false), .load none (t 140)⟩,
          ⟨(some 142), some (139, false), .call (v (Fn 22)) [(t 141)]⟩,
          ⟨(some 143), some (139, false), .un .not (t 142)⟩,
          ⟨(some 144), none, .pick (t 139) (v (.bool true)) (t 143)⟩])
        (.cond (t 144)
          (.seq (.ops [⟨(some 2), none, .mov (v (.bool false))⟩])
          .ret)
          .skip))))
      (.ops [⟨(some 145), none, .arith .add (t 117) (v (I 1))⟩,
        ⟨(some 117), none, .mov (t 145)⟩])))))))
  (.seq (.ops [⟨(some 146), none, .call (v (Fn 8)) []⟩,
    ⟨(some 2), none, .mov (t 146)⟩])
  .ret)))))))))⟩

/- slices.ContainsFunc[[]raddle/raddleref23.Block,raddle/raddleref23.Block] -/
def ir6 : IFunc := ⟨9, [.tmp 4],
  (.seq (.ops [⟨(some 4), none, .mov (v (.bool false))⟩])
  (.seq (.ops [⟨(some 5), none, .mov (t 0)⟩,
    ⟨(some 6), none, .mov (t 1)⟩,
    ⟨(some 7), none, .call (v (Fn 29)) [(t 5), (t 6)]⟩,
    ⟨(some 8), none, .arith .geq (t 7) (v (I 0))⟩,
    ⟨(some 4), none, .mov (t 8)⟩])
  .ret))⟩

/- raddle/raddlelaw23.FlowGraphs$1 -/
def ir7 : IFunc := ⟨7, [.tmp 2],
  (.seq (.ops [⟨(some 1), none, .box 26 (t 0)⟩,
    ⟨(some 2), none, .mov (v (.bool false))⟩])
  (.seq (.ops [⟨(some 3), none, .fieldAddr 2 (t 1)⟩,
    ⟨(some 4), none, .load none (t 3)⟩,
    ⟨(some 5), none, .lenSl (t 4)⟩,
    ⟨(some 6), none, .arith .gtr (t 5) (v (I 6))⟩,
    ⟨(some 2), none, .mov (t 6)⟩])
  .ret))⟩

/- raddle/raddlelaw23.awake -/
def ir8 : IFunc := ⟨54, [.tmp 0],
  (.seq (.ops [⟨(some 0), none, .mov (v (.bool false))⟩])
  (.seq (.ops [⟨(some 5), none, .build [(I 0), (I 0), (I 0), (I 0), (I 0), (S []), (.slice none 0 0)] [(0, 1, (v (I 1))), (2, 1, (v (I 3)))]⟩,
    ⟨(some 6), none, .build [(I 0), (I 0), (I 0), (I 0), (I 0), (S []), (.slice none 0 0)] [(0, 1, (v (I 20))), (3, 1, (v (I 4)))]⟩,
    ⟨(some 7), none, .build [(I 0), (I 0), (I 0), (I 0), (I 0), (S []), (.slice none 0 0)] [(0, 1, (v (I 1)))]⟩,
    ⟨(some 8), none, .build [(I 0), (I 0), (I 0), (I 0), (I 0), (S []), (.slice none 0 0)] [(0, 1, (v (I 19))), (3, 1, (v (I 1)))]⟩,
    ⟨(some 9), none, .build [(I 0), (I 0), (I 0), (I 0), (I 0), (S []), (.slice none 0 0)] [(0, 1, (v (I 22)))]⟩,
    ⟨(some 10), none, .buildSlice 62 5 [(I 0), (I 0), (I 0), (I 0), (I 0), (S []), (.slice none 0 0), (I 0), (I 0), (I 0), (I 0), (I 0), (S []), (.slice none 0 0), (I 0), (I 0), (I 0), (I 0), (I 0), (S []), (.slice none 0 0), (I 0), (I 0), (I 0), (I 0), (I 0), (S []), (.slice none 0 0), (I 0), (I 0), (I 0), (I 0), (I 0), (S []), (.slice none 0 0)] [(0, 7, (t 5)), (7, 7, (t 6)), (14, 7, (t 7)), (21, 7, (t 8)), (28, 7, (t 9))]⟩,
    ⟨(some 11), none, .build [(S []), (I 0), (I 0), (.slice none 0 0)] [(0, 1, (v (S [95, 115, 116, 97, 114, 116]))), (1, 1, (v (I 1))), (3, 1, (t 10))]⟩,
    ⟨(some 12), none, .buildSlice 65 1 [(S []), (I 0), (I 0), (.slice none 0 0)] [(0, 4, (t 11))]⟩,
    ⟨(some 13), none, .build [(I 0), (.slice none 0 0)] [(1, 1, (t 12))]⟩,
    ⟨(some 1), none, .box 53 (v (.agg #[(I 0), (.slice none 0 0)]))⟩,
    ⟨none, none, .store 2 (t 1) (t 13)⟩])
  (.seq (.ops [⟨(some 15), none, .load (some 2) (t 1)⟩,
    ⟨(some 16), none, .call (v (Fn 30)) [(t 15), (v (I 0))]⟩,
    ⟨(some 14), none, .mov (t 16)⟩,
    ⟨(some 17), none, .extract (t 14) 0⟩,
    ⟨(some 18), none, .extract (t 14) 1⟩,
    ⟨(some 2), none, .mov (t 17)⟩,
    ⟨(some 3), none, .mov (t 18)⟩])
  (.seq (.ops [⟨(some 19), none, .mov (t 2)⟩,
    ⟨(some 20), none, .call (v (Fn 9)) [(t 19)]⟩,
    ⟨(some 4), none, .mov (t 20)⟩])
  (.seq (.ops [⟨(some 21), none, .mov (t 3)⟩,
    ⟨(some 22), none, .arith .eql (t 21) (v (I 0))⟩,
    ⟨(some 23), none, .mov (t 22)⟩,
    ⟨(some 24), some (23, true), .mov (t 2)⟩,
    ⟨(some 25), some (23, true), .lenSl (t 24)⟩,
    ⟨(some 26), some (23, true), .arith .eql (t 25) (v (I 4))⟩,
    ⟨(some 27), none, .pick (t 23) (t 26) (v (.bool false))⟩,
    ⟨(some 28), none, .mov (t 27)⟩,
    ⟨(some 29), some (28, true), .mov (t 4)⟩,
    ⟨(some 30), some (28, true), .lenSl (t 29)⟩,
    ⟨(some 31), some (28, true), .arith .eql (t 30) (v (I 1))⟩,
    ⟨(some 32), none, .pick (t 28) (t 31) (v (.bool false))⟩,
    ⟨(some 33), none, .mov (t 32)⟩,
    ⟨(some 34), some (33, true), .mov (t 4)⟩,
    ⟨(some 35), some (33, true), .indexAddr 2 (t 34) (v (I 0))⟩,
    ⟨(some 36), some (33, true), .fieldAddr 0 (t 35)⟩,
    ⟨(some 37), some (33, true), .load none (t 36)⟩,
    ⟨(some 38), some (33, true), .arith .eql (t 37) (v (I 1))⟩,
    ⟨(some 39), none, .pick (t 33) (t 38) (v (.bool false))⟩,
    ⟨(some 40), none, .mov (t 39)⟩,
    ⟨(some 41), some (40, true), .mov (t 4)⟩,
    ⟨(some 42), some (40, true), .indexAddr 2 (t 41) (v (I 0))⟩,
    ⟨(some 43), some (40, true), .fieldAddr 1 (t 42)⟩,
    ⟨(some 44), some (40, true), .load none (t 43)⟩,
    ⟨(some 45), some (40, true), .buildSlice 3 2 [(I 0), (I 0)] [(0, 1, (v (I 1))), (1, 1, (v (I 2)))]⟩,
    ⟨(some 46), some (40, true), .call (v (Fn 13)) [(t 44), (t 45)]⟩,
    ⟨(some 47), none, .pick (t 40) (t 46) (v (.bool false))⟩,
    ⟨(some 48), none, .mov (t 47)⟩,
    ⟨(some 49), some (48, true), .mov (t 2)⟩,
    ⟨(some 50), some (48, true), .call (v (Fn 17)) [(t 49)]⟩,
    ⟨(some 51), some (48, true), .buildSlice 3 4 [(I 0), (I 0), (I 0), (I 0)] [(0, 1, (v (I (-1)))), (1, 1, (v (I 0))), (2, 1, (v (I 1))), (3, 1, (v (I 1)))]⟩,
    ⟨(some 52), some (48, true), .call (v (Fn 13)) [(t 50), (t 51)]⟩,
    ⟨(some 53), none, .pick (t 48) (t 52) (v (.bool false))⟩,
    ⟨(some 0), none, .mov (t 53)⟩])
  .ret)))))⟩

/- raddle/flow.Loops -/
def ir9 : IFunc := ⟨137, [.tmp 2],
  (.seq (.ops [⟨(some 2), none, .mov (v (.slice none 0 0))⟩])
  (.seq (.ops [⟨(some 17), none, .mov (t 0)⟩,
    ⟨(some 18), none, .call (v (Fn 15)) [(t 17)]⟩,
    ⟨(some 19), none, .mov (t 0)⟩,
    ⟨(some 20), none, .call (v (Fn 31)) [(t 19)]⟩,
    ⟨(some 3), none, .mov (t 18)⟩,
    ⟨(some 4), none, .mov (t 20)⟩])
  (.seq (.ops [⟨(some 21), none, .mov (t 0)⟩,
    ⟨(some 22), none, .lenSl (t 21)⟩,
    ⟨(some 23), none, .makeSlice 24 24 [(.slice none 0 0)] (t 22) (t 22)⟩,
    ⟨(some 5), none, .box 55 (v (.slice none 0 0))⟩,
    ⟨none, none, .store 1 (t 5) (t 23)⟩])
  (.seq (.seq (.ops [⟨(some 24), none, .mov (t 0)⟩,
    ⟨(some 25), none, .lenSl (t 24)⟩,
    ⟨(some 26), none, .mov (v (I 0))⟩])
  (.block 0
    (.loop
      (.seq (.ops [⟨(some 27), none, .arith .lss (t 26) (t 25)⟩])
      (.seq (.cond (t 27)
        .skip
        (.exit 0))
      (.seq (.block 1
        (.seq (.ops [⟨(some 28), none, .mov (t 26)⟩,
          ⟨(some 6), none, .box 3 (v (I 0))⟩,
          ⟨none, none, .store 1 (t 6) (t 28)⟩])
        (.seq (.ops [⟨(some 29), none, .mov (t 0)⟩,
          ⟨(some 30), none, .load none (t 6)⟩,
          ⟨(some 31), none, .call (v (Fn 32)) [(t 29), (t 30)]⟩])
        (.block 2
          (.rangeFunc (t 31) [32]
            (.ops [⟨(some 7), none, .mov (t 32)⟩])
            (.block 3
              (.draw [⟨(some 33), none, .load none (t 5)⟩,
                ⟨(some 34), none, .mov (t 7)⟩,
                ⟨(some 35), none, .load none (t 5)⟩,
                ⟨(some 36), none, .mov (t 7)⟩,
                ⟨(some 37), none, .indexAddr 1 (t 35) (t 36)⟩,
                ⟨(some 38), none, .load none (t 37)⟩,
                ⟨(some 39), none, .load none (t 6)⟩,
                ⟨(some 40), none, .buildSlice 3 1 [(I 0)] [(0, 1, (t 39))]⟩,
                ⟨(some 41), none, .append 3 1 8 (t 38) (t 40)⟩]
                [⟨(some 42), none, .indexAddr 1 (t 33) (t 34)⟩,
                ⟨none, none, .store 1 (t 42) (t 41)⟩])))))))
      (.ops [⟨(some 43), none, .arith .add (t 26) (v (I 1))⟩,
        ⟨(some 26), none, .mov (t 43)⟩])))))))
  (.seq (.ops [⟨(some 8), none, .mov (v (.slice none 0 0))⟩])
  (.seq (.seq (.ops [⟨(some 44), none, .mov (t 0)⟩,
    ⟨(some 45), none, .lenSl (t 44)⟩,
    ⟨(some 46), none, .mov (v (I 0))⟩])
  (.block 4
    (.loop
      (.seq (.ops [⟨(some 47), none, .arith .lss (t 46) (t 45)⟩])
      (.seq (.cond (t 47)
        .skip
        (.exit 4))
      (.seq (.block 5
        (.seq (.ops [⟨(some 48), none, .mov (t 46)⟩,
          ⟨(some 9), none, .mov (t 48)⟩])
        (.seq (.ops [⟨(some 49), none, .makeMap⟩,
          ⟨(some 10), none, .mov (t 49)⟩])
        (.seq (.ops [⟨(some 11), none, .mov (v (.slice none 0 0))⟩])
        (.seq (.seq (.ops [⟨(some 50), none, .load none (t 5)⟩,
          ⟨(some 51), none, .mov (t 9)⟩,
          ⟨(some 52), none, .indexAddr 1 (t 50) (t 51)⟩,
          ⟨(some 53), none, .load none (t 52)⟩,
          ⟨(some 54), none, .lenSl (t 53)⟩,
          ⟨(some 55), none, .mov (v (I 0))⟩])
        (.block 6
          (.loop
            (.seq (.ops [⟨(some 56), none, .arith .lss (t 55) (t 54)⟩])
            (.seq (.cond (t 56)
              .skip
              (.exit 6))
            (.seq (.block 7
              (.seq (.ops [⟨(some 57), none, .indexAddr 1 (t 53) (t 55)⟩,
                ⟨(some 58), none, .load none (t 57)⟩,
                ⟨(some 13), none, .mov (t 58)⟩])
              (.seq (.ops [⟨(some 59), none, .mov (t 3)⟩,
                ⟨(some 60), none, .mov (t 13)⟩,
                ⟨(some 61), none, .indexAddr 1 (t 59) (t 60)⟩,
                ⟨(some 62), none, .load none (t 61)⟩,
                ⟨(some 63), none, .mov (t 62)⟩,
                ⟨(some 64), some (63, true), .mov (t 4)⟩,
                ⟨(some 65), some (63, true), .mov (t 9)⟩,
                ⟨(some 66), some (63, true), .indexAddr 1 (t 64) (t 65)⟩,
                ⟨(some 67), some (63, true), .load none (t 66)⟩,
                ⟨(some 68), some (63, true), .mov (t 13)⟩,
                ⟨(some 69), some (63, true), .indexAddr 1 (t 67) (t 68)⟩,
                ⟨(some 70), some (63, true), .load none (t 69)⟩,
                ⟨(some 71), none, .pick (t 63) (t 70) (v (.bool false))⟩])
              (.cond (t 71)
                (.ops [⟨(some 72), none, .mov (t 11)⟩,
                  ⟨(some 73), none, .mov (t 13)⟩,
                  ⟨(some 74), none, .buildSlice 3 1 [(I 0)] [(0, 1, (t 73))]⟩,
                  ⟨(some 75), none, .append 3 1 8 (t 72) (t 74)⟩,
                  ⟨(some 11), none, .mov (t 75)⟩])
                .skip))))
            (.ops [⟨(some 76), none, .arith .add (t 55) (v (I 1))⟩,
              ⟨(some 55), none, .mov (t 76)⟩])))))))
        (.seq (.seq (.ops [⟨(some 77), none, .mov (t 11)⟩,
          ⟨(some 78), none, .lenSl (t 77)⟩,
          ⟨(some 79), none, .arith .eql (t 78) (v (I 0))⟩])
        (.cond (t 79)
          (.exit 5)
          .skip))
        (.seq (.ops [⟨(some 80), none, .mov (t 10)⟩,
          ⟨(some 81), none, .mov (t 9)⟩,
          ⟨none, none, .mapUpdate .int (t 80) (t 81) (v (.bool true))⟩])
        (.seq (.block 8
          (.loop
            (.seq (.seq (.ops [⟨(some 82), none, .mov (t 11)⟩,
              ⟨(some 83), none, .lenSl (t 82)⟩,
              ⟨(some 84), none, .arith .gtr (t 83) (v (I 0))⟩])
            (.cond (t 84)
              .skip
              (.exit 8)))
            (.block 9
              (.seq (.ops [⟨(some 85), none, .mov (t 11)⟩,
                ⟨(some 86), none, .mov (t 11)⟩,
                ⟨(some 87), none, .lenSl (t 86)⟩,
                ⟨(some 88), none, .arith .sub (t 87) (v (I 1))⟩,
                ⟨(some 89), none, .indexAddr 1 (t 85) (t 88)⟩,
                ⟨(some 90), none, .load none (t 89)⟩,
                ⟨(some 14), none, .mov (t 90)⟩])
              (.seq (.ops [⟨(some 91), none, .mov (t 11)⟩,
                ⟨(some 92), none, .mov (t 11)⟩,
                ⟨(some 93), none, .lenSl (t 92)⟩,
                ⟨(some 94), none, .arith .sub (t 93) (v (I 1))⟩,
                ⟨(some 95), none, .slice 3 1 (t 91) none (some (t 94)) none⟩,
                ⟨(some 11), none, .mov (t 95)⟩])
              (.seq (.ops [⟨(some 96), none, .mov (t 10)⟩,
                ⟨(some 97), none, .mov (t 14)⟩,
                ⟨(some 98), none, .lookup .int (.bool false) false (t 96) (t 97)⟩,
                ⟨(some 99), none, .un .not (t 98)⟩,
                ⟨(some 100), none, .mov (t 99)⟩,
                ⟨(some 101), some (100, true), .mov (t 3)⟩,
                ⟨(some 102), some (100, true), .mov (t 14)⟩,
                ⟨(some 103), some (100, true), .indexAddr 1 (t 101) (t 102)⟩,
                ⟨(some 104), some (100, true), .load none (t 103)⟩,
                ⟨(some 105), none, .pick (t 100) (t 104) (v (.bool false))⟩])
              (.cond (t 105)
                (.seq (.ops [⟨(some 106), none, .mov (t 10)⟩,
                  ⟨(some 107), none, .mov (t 14)⟩,
                  ⟨none, none, .mapUpdate .int (t 106) (t 107) (v (.bool true))⟩])
                (.ops [⟨(some 108), none, .mov (t 11)⟩,
                  ⟨(some 109), none, .load none (t 5)⟩,
                  ⟨(some 110), none, .mov (t 14)⟩,
                  ⟨(some 111), none, .indexAddr 1 (t 109) (t 110)⟩,
                  ⟨(some 112), none, .load none (t 111)⟩,
                  ⟨(some 113), none, .append 3 1 8 (t 108) (t 112)⟩,
                  ⟨(some 11), none, .mov (t 113)⟩]))
                .skip))))))))
        (.seq (.ops [⟨(some 114), none, .mov (t 9)⟩,
          ⟨(some 115), none, .build [(I 0), (.slice none 0 0)] [(0, 1, (t 114))]⟩,
          ⟨(some 15), none, .box 37 (v (.agg #[(I 0), (.slice none 0 0)]))⟩,
          ⟨none, none, .store 2 (t 15) (t 115)⟩])
        (.seq (.seq (.ops [⟨(some 116), none, .mov (t 0)⟩,
          ⟨(some 117), none, .lenSl (t 116)⟩,
          ⟨(some 118), none, .mov (v (I 0))⟩])
        (.block 10
          (.loop
            (.seq (.ops [⟨(some 119), none, .arith .lss (t 118) (t 117)⟩])
            (.seq (.cond (t 119)
              .skip
              (.exit 10))
            (.seq (.block 11
              (.seq (.ops [⟨(some 120), none, .mov (t 118)⟩,
                ⟨(some 16), none, .mov (t 120)⟩])
              (.seq (.ops [⟨(some 121), none, .mov (t 10)⟩,
                ⟨(some 122), none, .mov (t 16)⟩,
                ⟨(some 123), none, .lookup .int (.bool false) false (t 121) (t 122)⟩])
              (.cond (t 123)
                (.ops [⟨(some 124), none, .fieldAddr 1 (t 15)⟩,
                  ⟨(some 125), none, .load none (t 124)⟩,
                  ⟨(some 126), none, .mov (t 16)⟩,
                  ⟨(some 127), none, .buildSlice 3 1 [(I 0)] [(0, 1, (t 126))]⟩,
                  ⟨(some 128), none, .append 3 1 8 (t 125) (t 127)⟩,
                  ⟨(some 129), none, .fieldAddr 1 (t 15)⟩,
                  ⟨none, none, .store 1 (t 129) (t 128)⟩])
                .skip))))
            (.ops [⟨(some 130), none, .arith .add (t 118) (v (I 1))⟩,
              ⟨(some 118), none, .mov (t 130)⟩])))))))
        (.ops [⟨(some 131), none, .mov (t 8)⟩,
          ⟨(some 132), none, .load (some 2) (t 15)⟩,
          ⟨(some 133), none, .buildSlice 37 1 [(I 0), (.slice none 0 0)] [(0, 2, (t 132))]⟩,
          ⟨(some 134), none, .append 37 2 32 (t 131) (t 133)⟩,
          ⟨(some 8), none, .mov (t 134)⟩])))))))))))
      (.ops [⟨(some 135), none, .arith .add (t 46) (v (I 1))⟩,
        ⟨(some 46), none, .mov (t 135)⟩])))))))
  (.seq (.ops [⟨(some 136), none, .mov (t 8)⟩,
    ⟨(some 2), none, .mov (t 136)⟩])
  .ret)))))))⟩

/- raddle/raddleref23.Loops -/
def ir10 : IFunc := ⟨96, [.tmp 2],
  (.seq (.ops [⟨(some 2), none, .mov (v (.slice none 0 0))⟩])
  (.seq (.ops [⟨(some 12), none, .buildSlice 38 0 [] []⟩,
    ⟨(some 3), none, .mov (t 12)⟩])
  (.seq (.ops [⟨(some 13), none, .mov (t 0)⟩,
    ⟨(some 14), none, .call (v (Fn 16)) [(t 13)]⟩,
    ⟨(some 4), none, .mov (t 14)⟩])
  (.seq (.seq (.ops [⟨(some 5), none, .mov (v (I 0))⟩])
  (.block 0
    (.loop
      (.seq (.seq (.ops [⟨(some 15), none, .mov (t 5)⟩,
        ⟨(some 16), none, .mov (t 0)⟩,
        ⟨(some 17), none, .lenSl (t 16)⟩,
        ⟨(some 18), none, .arith .lss (t 15) (t 17)⟩])
      (.cond (t 18)
        .skip
        (.exit 0)))
      (.seq (.block 1
        (.seq (.ops [⟨(some 21), none, .buildSlice 3 0 [] []⟩,
          ⟨(some 6), none, .mov (t 21)⟩])
        (.seq (.seq (.ops [⟨(some 7), none, .mov (v (I 0))⟩])
        (.block 2
          (.loop
            (.seq (.seq (.ops [⟨(some 22), none, .mov (t 7)⟩,
              ⟨(some 23), none, .mov (t 0)⟩,
              ⟨(some 24), none, .lenSl (t 23)⟩,
              ⟨(some 25), none, .arith .lss (t 22) (t 24)⟩])
            (.cond (t 25)
              .skip
              (.exit 2)))
            (.seq (.block 3
              (.seq (.ops [⟨(some 28), none, .mov (t 0)⟩,
                ⟨(some 29), none, .mov (t 7)⟩,
                ⟨(some 30), none, .mov (t 5)⟩,
                ⟨(some 31), none, .call (v (Fn 33)) [(t 28), (t 29), (t 30)]⟩])
              (.cond (t 31)
                (.ops [⟨(some 32), none, .mov (t 6)⟩,
                  ⟨(some 33), none, .mov (t 7)⟩,
                  ⟨(some 34), none, .call (v (Fn 34)) [(t 32), (t 33)]⟩,
                  ⟨(some 6), none, .mov (t 34)⟩])
                .skip)))
            (.ops [⟨(some 26), none, .mov (t 7)⟩,
              ⟨(some 27), none, .arith .add (t 26) (v (I 1))⟩,
              ⟨(some 7), none, .mov (t 27)⟩]))))))
        (.seq (.seq (.ops [⟨(some 35), none, .mov (t 6)⟩,
          ⟨(some 36), none, .lenSl (t 35)⟩,
          ⟨(some 37), none, .arith .eql (t 36) (v (I 0))⟩])
        (.cond (t 37)
          (.exit 1)
          .skip))
        (.seq (.ops [⟨(some 38), none, .mov (t 6)⟩,
          ⟨(some 39), none, .mov (t 5)⟩,
          ⟨(some 40), none, .call (v (Fn 34)) [(t 38), (t 39)]⟩,
          ⟨(some 6), none, .mov (t 40)⟩])
        (.seq (.seq (.ops [⟨(some 8), none, .mov (v (.bool true))⟩])
        (.block 4
          (.loop
            (.seq (.seq (.ops [⟨(some 41), none, .mov (t 8)⟩])
            (.cond (t 41)
              .skip
              (.exit 4)))
            (.block 5
              (.seq (.ops [⟨(some 8), none, .mov (v (.bool false))⟩])
              (.seq (.ops [⟨(some 9), none, .mov (v (I 0))⟩])
              (.block 6
                (.loop
                  (.seq (.seq (.ops [⟨(some 42), none, .mov (t 9)⟩,
                    ⟨(some 43), none, .mov (t 0)⟩,
                    ⟨(some 44), none, .lenSl (t 43)⟩,
                    ⟨(some 45), none, .arith .lss (t 42) (t 44)⟩])
                  (.cond (t 45)
                    .skip
                    (.exit 6)))
                  (.seq (.block 7
                    (.seq (.ops [⟨(some 10), none, .mov (v (I 0))⟩])
                    (.block 8
                      (.loop
                        (.seq (.seq (.ops [⟨(some 48), none, .mov (t 10)⟩,
                          ⟨(some 49), none, .mov (t 0)⟩,
                          ⟨(some 50), none, .mov (t 9)⟩,
                          ⟨(some 51), none, .indexAddr 3 (t 49) (t 50)⟩,
                          ⟨(some 52), none, .fieldAddr 2 (t 51)⟩,
                          ⟨(some 53), none, .load none (t 52)⟩,
                          ⟨(some 54), none, .lenSl (t 53)⟩,
                          ⟨(some 55), none, .arith .lss (t 48) (t 54)⟩])
                        (.cond (t 55)
                          .skip
                          (.exit 8)))
                        (.seq (.block 9
                          (.seq (.ops [⟨(some 58), none, .mov (t 0)⟩,
                            ⟨(some 59), none, .mov (t 9)⟩,
                            ⟨(some 60), none, .indexAddr 3 (t 58) (t 59)⟩,
                            ⟨(some 61), none, .fieldAddr 2 (t 60)⟩,
                            ⟨(some 62), none, .load none (t 61)⟩,
                            ⟨(some 63), none, .mov (t 10)⟩,
                            ⟨(some 64), none, .indexAddr 1 (t 62) (t 63)⟩,
                            ⟨(some 65), none, .load none (t 64)⟩,
                            ⟨(some 11), none, .mov (t 65)⟩])
                          (.seq (.ops [⟨(some 66), none, .mov (t 4)⟩,
                            ⟨(some 67), none, .mov (t 9)⟩,
                            ⟨(some 68), none, .indexAddr 1 (t 66) (t 67)⟩,
                            ⟨(some 69), none, .load none (t 68)⟩,
                            ⟨(some 70), none, .mov (t 69)⟩,
                            ⟨(some 71), some (70, true), .mov (t 11)⟩,
                            ⟨(some 72), some (70, true), .mov (t 5)⟩,
                            ⟨(some 73), some (70, true), .arith .neq (t 71) (t 72)⟩,
                            ⟨(some 74), none, .pick (t 70) (t 73) (v (.bool false))⟩,
                            ⟨(some 75), none, .mov (t 74)⟩,
                            ⟨(some 76), some (75, true), .mov (t 6)⟩,
                            ⟨(some 77), some (75, true), .mov (t 11)⟩,
                            ⟨(some 78), some (75, true), .call (v (Fn 35)) [(t 76), (t 77)]⟩,
                            ⟨(some 79), none, .pick (t 75) (t 78) (v (.bool false))⟩,
                            ⟨(some 80), none, .mov (t 79)⟩,
                            ⟨(some 81), some (80, true), .mov (t 6)⟩,
                            ⟨(some 82), some (80, true), .mov (t 9)⟩,
                            ⟨(some 83), some (80, true), .call (v (Fn 35)) [(t 81), (t 82)]⟩,
                            ⟨(some 84), some (80, true), .un .not (t 83)⟩,
                            ⟨(some 85), none, .pick (t 80) (t 84) (v (.bool false))⟩])
                          (.cond (t 85)
                            (.seq (.ops [⟨(some 86), none, .mov (t 6)⟩,
                              ⟨(some 87), none, .mov (t 9)⟩,
                              ⟨(some 88), none, .call (v (Fn 34)) [(t 86), (t 87)]⟩,
                              ⟨(some 6), none, .mov (t 88)⟩])
                            (.ops [⟨(some 8), none, .mov (v (.bool true))⟩]))
                            .skip))))
                        (.ops [⟨(some 56), none, .mov (t 10)⟩,
                          ⟨(some 57), none, .arith .add (t 56) (v (I 1))⟩,
                          ⟨(some 10), none, .mov (t 57)⟩])))))))
                  (.ops [⟨(some 46), none, .mov (t 9)⟩,
                    ⟨(some 47), none, .arith .add (t 46) (v (I 1))⟩,
                    ⟨(some 9), none, .mov (t 47)⟩]))))))))))))
        (.ops [⟨(some 89), none, .mov (t 3)⟩,
          ⟨(some 90), none, .mov (t 5)⟩,
          ⟨(some 91), none, .mov (t 6)⟩,
          ⟨(some 92), none, .build [(I 0), (.slice none 0 0)] [(0, 1, (t 90)), (1, 1, (t 91))]⟩,
          ⟨(some 93), none, .buildSlice 38 1 [(I 0), (.slice none 0 0)] [(0, 2, (t 92))]⟩,
          ⟨(some 94), none, .append 38 2 32 (t 89) (t 93)⟩,
          ⟨(some 3), none, .mov (t 94)⟩])))))))
      (.ops [⟨(some 19), none, .mov (t 5)⟩,
        ⟨(some 20), none, .arith .add (t 19) (v (I 1))⟩,
        ⟨(some 5), none, .mov (t 20)⟩]))))))
  (.seq (.ops [⟨(some 95), none, .mov (t 3)⟩,
    ⟨(some 2), none, .mov (t 95)⟩])
  .ret)))))⟩

/- slices.EqualFunc[[]raddle/flow.Loop,[]raddle/raddleref23.Loop,raddle/flow.Loop,raddle/raddleref23.Loop] -/
def ir11 : IFunc := ⟨32, [.tmp 6],
  (.seq (.ops [⟨(some 6), none, .mov (v (.bool false))⟩])
  (.seq (.seq (.ops [⟨(some 10), none, .mov (t 0)⟩,
    ⟨(some 11), none, .lenSl (t 10)⟩,
    ⟨(some 12), none, .mov (t 1)⟩,
    ⟨(some 13), none, .lenSl (t 12)⟩,
    ⟨(some 14), none, .arith .neq (t 11) (t 13)⟩])
  (.cond (t 14)
    (.seq (.ops [⟨(some 6), none, .mov (v (.bool false))⟩])
    .ret)
    .skip))
  (.seq (.seq (.ops [⟨(some 15), none, .mov (t 0)⟩,
    ⟨(some 16), none, .lenSl (t 15)⟩,
    ⟨(some 17), none, .mov (v (I 0))⟩])
  (.block 0
    (.loop
      (.seq (.ops [⟨(some 18), none, .arith .lss (t 17) (t 16)⟩])
      (.seq (.cond (t 18)
        .skip
        (.exit 0))
      (.seq (.block 1
        (.seq (.ops [⟨(some 19), none, .mov (t 17)⟩,
          ⟨(some 20), none, .indexAddr 2 (t 15) (t 17)⟩,
          ⟨(some 21), none, .load (some 2) (t 20)⟩,
          ⟨(some 8), none, .box 37 (v (.agg #[(I 0), (.slice none 0 0)]))⟩,
          ⟨(some 7), none, .mov (t 19)⟩,
          ⟨none, none, .store 2 (t 8) (t 21)⟩])
        (.seq (.ops [⟨(some 22), none, .mov (t 1)⟩,
          ⟨(some 23), none, .mov (t 7)⟩,
          ⟨(some 24), none, .indexAddr 2 (t 22) (t 23)⟩,
          ⟨(some 25), none, .load (some 2) (t 24)⟩,
          ⟨(some 9), none, .box 38 (v (.agg #[(I 0), (.slice none 0 0)]))⟩,
          ⟨none, none, .store 2 (t 9) (t 25)⟩])
        (.seq (.ops [⟨(some 26), none, .mov (t 2)⟩,
          ⟨(some 27), none, .load (some 2) (t 8)⟩,
          ⟨(some 28), none, .load (some 2) (t 9)⟩,
          ⟨(some 29), none, .call (t 26) [(t 27), (t 28)]⟩,
          ⟨(some 30), none, .un .not (t 29)⟩])
        (.cond (t 30)
          (.seq (.ops [⟨(some 6), none, .mov (v (.bool false))⟩])
          .ret)
          .skip)))))
      (.ops [⟨(some 31), none, .arith .add (t 17) (v (I 1))⟩,
        ⟨(some 17), none, .mov (t 31)⟩])))))))
  (.seq (.ops [⟨(some 6), none, .mov (v (.bool true))⟩])
  .ret))))⟩

/- raddle/raddlelaw23.FlowGraphs$2 -/
def ir12 : IFunc := ⟨17, [.tmp 4],
  (.seq (.ops [⟨(some 2), none, .box 37 (t 0)⟩,
    ⟨(some 3), none, .box 38 (t 1)⟩,
    ⟨(some 4), none, .mov (v (.bool false))⟩])
  (.seq (.ops [⟨(some 5), none, .fieldAddr 0 (t 2)⟩,
    ⟨(some 6), none, .load none (t 5)⟩,
    ⟨(some 7), none, .fieldAddr 0 (t 3)⟩,
    ⟨(some 8), none, .load none (t 7)⟩,
    ⟨(some 9), none, .arith .eql (t 6) (t 8)⟩,
    ⟨(some 10), none, .mov (t 9)⟩,
    ⟨(some 11), some (10, true), .fieldAddr 1 (t 2)⟩,
    ⟨(some 12), some (10, true), .load none (t 11)⟩,
    ⟨(some 13), some (10, true), .fieldAddr 1 (t 3)⟩,
    ⟨(some 14), some (10, true), .load none (t 13)⟩,
    ⟨(some 15), some (10, true), .call (v (Fn 13)) [(t 12), (t 14)]⟩,
    ⟨(some 16), none, .pick (t 10) (t 15) (v (.bool false))⟩,
    ⟨(some 4), none, .mov (t 16)⟩])
  .ret))⟩

/- slices.Equal[[]int,int] -/
def ir13 : IFunc := ⟨26, [.tmp 4],
  (.seq (.ops [⟨(some 4), none, .mov (v (.bool false))⟩])
  (.seq (.seq (.ops [⟨(some 6), none, .mov (t 0)⟩,
    ⟨(some 7), none, .lenSl (t 6)⟩,
    ⟨(some 8), none, .mov (t 1)⟩,
    ⟨(some 9), none, .lenSl (t 8)⟩,
    ⟨(some 10), none, .arith .neq (t 7) (t 9)⟩])
  (.cond (t 10)
    (.seq (.ops [⟨(some 4), none, .mov (v (.bool false))⟩])
    .ret)
    .skip))
  (.seq (.seq (.ops [⟨(some 11), none, .mov (t 0)⟩,
    ⟨(some 12), none, .lenSl (t 11)⟩,
    ⟨(some 13), none, .mov (v (I 0))⟩])
  (.block 0
    (.loop
      (.seq (.ops [⟨(some 14), none, .arith .lss (t 13) (t 12)⟩])
      (.seq (.cond (t 14)
        .skip
        (.exit 0))
      (.seq (.block 1
        (.seq (.ops [⟨(some 15), none, .mov (t 13)⟩,
          ⟨(some 5), none, .mov (t 15)⟩])
        (.seq (.draw [⟨(some 16), none, .mov (t 0)⟩,
          ⟨(some 17), none, .mov (t 5)⟩,
          ⟨(some 18), none, .indexAddr 1 (t 16) (t 17)⟩,
          ⟨(some 19), none, .load none (t 18)⟩,
          ⟨(some 20), none, .mov (t 1)⟩,
          ⟨(some 21), none, .mov (t 5)⟩,
          ⟨(some 22), none, .indexAddr 1 (t 20) (t 21)⟩,
          ⟨(some 23), none, .load none (t 22)⟩]
          [⟨(some 24), none, .arith .neq (t 19) (t 23)⟩])
        (.cond (t 24)
          (.seq (.ops [⟨(some 4), none, .mov (v (.bool false))⟩])
          .ret)
          .skip))))
      (.ops [⟨(some 25), none, .arith .add (t 13) (v (I 1))⟩,
        ⟨(some 13), none, .mov (t 25)⟩])))))))
  (.seq (.ops [⟨(some 4), none, .mov (v (.bool true))⟩])
  .ret))))⟩

/- slices.Equal[[]bool,bool] -/
def ir14 : IFunc := ⟨26, [.tmp 4],
  (.seq (.ops [⟨(some 4), none, .mov (v (.bool false))⟩])
  (.seq (.seq (.ops [⟨(some 6), none, .mov (t 0)⟩,
    ⟨(some 7), none, .lenSl (t 6)⟩,
    ⟨(some 8), none, .mov (t 1)⟩,
    ⟨(some 9), none, .lenSl (t 8)⟩,
    ⟨(some 10), none, .arith .neq (t 7) (t 9)⟩])
  (.cond (t 10)
    (.seq (.ops [⟨(some 4), none, .mov (v (.bool false))⟩])
    .ret)
    .skip))
  (.seq (.seq (.ops [⟨(some 11), none, .mov (t 0)⟩,
    ⟨(some 12), none, .lenSl (t 11)⟩,
    ⟨(some 13), none, .mov (v (I 0))⟩])
  (.block 0
    (.loop
      (.seq (.ops [⟨(some 14), none, .arith .lss (t 13) (t 12)⟩])
      (.seq (.cond (t 14)
        .skip
        (.exit 0))
      (.seq (.block 1
        (.seq (.ops [⟨(some 15), none, .mov (t 13)⟩,
          ⟨(some 5), none, .mov (t 15)⟩])
        (.seq (.draw [⟨(some 16), none, .mov (t 0)⟩,
          ⟨(some 17), none, .mov (t 5)⟩,
          ⟨(some 18), none, .indexAddr 1 (t 16) (t 17)⟩,
          ⟨(some 19), none, .load none (t 18)⟩,
          ⟨(some 20), none, .mov (t 1)⟩,
          ⟨(some 21), none, .mov (t 5)⟩,
          ⟨(some 22), none, .indexAddr 1 (t 20) (t 21)⟩,
          ⟨(some 23), none, .load none (t 22)⟩]
          [⟨(some 24), none, .eqBool true (t 19) (t 23)⟩])
        (.cond (t 24)
          (.seq (.ops [⟨(some 4), none, .mov (v (.bool false))⟩])
          .ret)
          .skip))))
      (.ops [⟨(some 25), none, .arith .add (t 13) (v (I 1))⟩,
        ⟨(some 13), none, .mov (t 25)⟩])))))))
  (.seq (.ops [⟨(some 4), none, .mov (v (.bool true))⟩])
  .ret))))⟩

/- raddle/flow.Reached -/
def ir15 : IFunc := ⟨5, [.tmp 2],
  (.seq (.ops [⟨(some 2), none, .mov (v (.slice none 0 0))⟩])
  (.seq (.ops [⟨(some 3), none, .mov (t 0)⟩,
    ⟨(some 4), none, .call (v (Fn 36)) [(t 3), (v (I (-1)))]⟩,
    ⟨(some 2), none, .mov (t 4)⟩])
  .ret))⟩

/- raddle/raddleref23.Reached -/
def ir16 : IFunc := ⟨5, [.tmp 2],
  (.seq (.ops [⟨(some 2), none, .mov (v (.slice none 0 0))⟩])
  (.seq (.ops [⟨(some 3), none, .mov (t 0)⟩,
    ⟨(some 4), none, .call (v (Fn 37)) [(t 3), (v (I (-1)))]⟩,
    ⟨(some 2), none, .mov (t 4)⟩])
  .ret))⟩

/- raddle/flow.Dominators -/
def ir17 : IFunc := ⟨53, [.tmp 2],
  (.seq (.ops [⟨(some 2), none, .mov (v (.slice none 0 0))⟩])
  (.seq (.ops [⟨(some 8), none, .mov (t 0)⟩,
    ⟨(some 9), none, .call (v (Fn 31)) [(t 8)]⟩,
    ⟨(some 3), none, .mov (t 9)⟩])
  (.seq (.ops [⟨(some 4), none, .mov (v (.slice none 0 0))⟩])
  (.seq (.seq (.ops [⟨(some 10), none, .mov (t 0)⟩,
    ⟨(some 11), none, .lenSl (t 10)⟩,
    ⟨(some 12), none, .mov (v (I 0))⟩])
  (.block 0
    (.loop
      (.seq (.ops [⟨(some 13), none, .arith .lss (t 12) (t 11)⟩])
      (.seq (.cond (t 13)
        .skip
        (.exit 0))
      (.seq (.block 1
        (.seq (.ops [⟨(some 14), none, .mov (t 12)⟩,
          ⟨(some 5), none, .mov (t 14)⟩])
        (.seq (.ops [⟨(some 6), none, .mov (v (I (-1)))⟩])
        (.seq (.seq (.ops [⟨(some 15), none, .mov (t 0)⟩,
          ⟨(some 16), none, .lenSl (t 15)⟩,
          ⟨(some 17), none, .mov (v (I 0))⟩])
        (.block 2
          (.loop
            (.seq (.ops [⟨(some 18), none, .arith .lss (t 17) (t 16)⟩])
            (.seq (.cond (t 18)
              .skip
              (.exit 2))
            (.seq (.block 3
              (.seq (.ops [⟨(some 19), none, .mov (t 17)⟩,
                ⟨(some 7), none, .mov (t 19)⟩])
              (.seq (.ops [⟨(some 20), none, .mov (t 7)⟩,
                ⟨(some 21), none, .mov (t 5)⟩,
                ⟨(some 22), none, .arith .neq (t 20) (t 21)⟩,
                ⟨(some 23), none, .mov (t 22)⟩,
                ⟨(some 24), some (23, true), .mov (t 3)⟩,
                ⟨(some 25), some (23, true), .mov (t 7)⟩,
                ⟨(some 26), some (23, true), .indexAddr 1 (t 24) (t 25)⟩,
                ⟨(some 27), some (23, true), .load none (t 26)⟩,
                ⟨(some 28), some (23, true), .mov (t 5)⟩,
                ⟨(some 29), some (23, true), .indexAddr 1 (t 27) (t 28)⟩,
                ⟨(some 30), some (23, true), .load none (t 29)⟩,
                ⟨(some 31), none, .pick (t 23) (t 30) (v (.bool false))⟩,
                ⟨(some 32), none, .mov (t 31)⟩,
                ⟨(some 33), some (32, true), .mov (t 6)⟩,
                ⟨(some 34), some (32, true), .arith .lss (t 33) (v (I 0))⟩,
                ⟨(some 35), some (32, true), .mov (t 34)⟩,
                ⟨(some 36), some (35, false), .mov (t 3)⟩,
                ⟨(some 37), some (35, false), .mov (t 6)⟩,
                ⟨(some 38), some (35, false), .indexAddr 1 (t 36) (t 37)⟩,
                ⟨(some 39), some (35, false), .load none (t 38)⟩,
                ⟨(some 40), some (35, false), .mov (t 7)⟩,
                ⟨(some 41), some (35, false), .indexAddr 1 (t 39) (t 40)⟩,
                ⟨(some 42), some (35, false), .load none (t 41)⟩,
                ⟨(some 43), some (32, true), .pick (t 35) (v (.bool true)) (t 42)⟩,
                ⟨(some 44), none, .pick (t 32) (t 43) (v (.bool false))⟩])
              (.cond (t 44)
                (.ops [⟨(some 45), none, .mov (t 7)⟩,
                  ⟨(some 6), none, .mov (t 45)⟩])
                .skip))))
            (.ops [⟨(some 46), none, .arith .add (t 17) (v (I 1))⟩,
              ⟨(some 17), none, .mov (t 46)⟩])))))))
        (.ops [⟨(some 47), none, .mov (t 4)⟩,
          ⟨(some 48), none, .mov (t 6)⟩,
          ⟨(some 49), none, .buildSlice 3 1 [(I 0)] [(0, 1, (t 48))]⟩,
          ⟨(some 50), none, .append 3 1 8 (t 47) (t 49)⟩,
          ⟨(some 4), none, .mov (t 50)⟩])))))
      (.ops [⟨(some 51), none, .arith .add (t 12) (v (I 1))⟩,
        ⟨(some 12), none, .mov (t 51)⟩])))))))
  (.seq (.ops [⟨(some 52), none, .mov (t 4)⟩,
    ⟨(some 2), none, .mov (t 52)⟩])
  .ret)))))⟩

/- raddle/raddleref23.Dominators -/
def ir18 : IFunc := ⟨49, [.tmp 2],
  (.seq (.ops [⟨(some 2), none, .mov (v (.slice none 0 0))⟩])
  (.seq (.ops [⟨(some 7), none, .buildSlice 3 0 [] []⟩,
    ⟨(some 3), none, .mov (t 7)⟩])
  (.seq (.seq (.ops [⟨(some 4), none, .mov (v (I 0))⟩])
  (.block 0
    (.loop
      (.seq (.seq (.ops [⟨(some 8), none, .mov (t 4)⟩,
        ⟨(some 9), none, .mov (t 0)⟩,
        ⟨(some 10), none, .lenSl (t 9)⟩,
        ⟨(some 11), none, .arith .lss (t 8) (t 10)⟩])
      (.cond (t 11)
        .skip
        (.exit 0)))
      (.seq (.block 1
        (.seq (.ops [⟨(some 5), none, .mov (v (I (-1)))⟩])
        (.seq (.seq (.ops [⟨(some 6), none, .mov (v (I 0))⟩])
        (.block 2
          (.loop
            (.seq (.seq (.ops [⟨(some 14), none, .mov (t 6)⟩,
              ⟨(some 15), none, .mov (t 0)⟩,
              ⟨(some 16), none, .lenSl (t 15)⟩,
              ⟨(some 17), none, .arith .lss (t 14) (t 16)⟩,
              ⟨(some 18), none, .mov (t 17)⟩,
              ⟨(some 19), some (18, true), .mov (t 4)⟩,
              ⟨(some 20), some (18, true), .arith .gtr (t 19) (v (I 0))⟩,
              ⟨(some 21), none, .pick (t 18) (t 20) (v (.bool false))⟩])
            (.cond (t 21)
              .skip
              (.exit 2)))
            (.seq (.block 3
              (.seq (.ops [⟨(some 24), none, .mov (t 6)⟩,
                ⟨(some 25), none, .mov (t 4)⟩,
                ⟨(some 26), none, .arith .neq (t 24) (t 25)⟩,
                ⟨(some 27), none, .mov (t 26)⟩,
                ⟨(some 28), some (27, true), .mov (t 0)⟩,
                ⟨(some 29), some (27, true), .mov (t 6)⟩,
                ⟨(some 30), some (27, true), .mov (t 4)⟩,
                ⟨(some 31), some (27, true), .call (v (Fn 38)) [(t 28), (t 29), (t 30)]⟩,
                ⟨(some 32), none, .pick (t 27) (t 31) (v (.bool false))⟩,
                ⟨(some 33), none, .mov (t 32)⟩,
                ⟨(some 34), some (33, true), .mov (t 5)⟩,
                ⟨(some 35), some (33, true), .arith .lss (t 34) (v (I 0))⟩,
                ⟨(some 36), some (33, true), .mov (t 35)⟩,
                ⟨(some 37), some (36, false), .mov (t 0)⟩,
                ⟨(some 38), some (36, false), .mov (t 5)⟩,
                ⟨(some 39), some (36, false), .mov (t 6)⟩,
                ⟨(some 40), some (36, false), .call (v (Fn 38)) [(t 37), (t 38), (t 39)]⟩,
                ⟨(some 41), some (33, true), .pick (t 36) (v (.bool true)) (t 40)⟩,
                ⟨(some 42), none, .pick (t 33) (t 41) (v (.bool false))⟩])
              (.cond (t 42)
                (.ops [⟨(some 43), none, .mov (t 6)⟩,
                  ⟨(some 5), none, .mov (t 43)⟩])
                .skip)))
            (.ops [⟨(some 22), none, .mov (t 6)⟩,
              ⟨(some 23), none, .arith .add (t 22) (v (I 1))⟩,
              ⟨(some 6), none, .mov (t 23)⟩]))))))
        (.ops [⟨(some 44), none, .mov (t 3)⟩,
          ⟨(some 45), none, .mov (t 5)⟩,
          ⟨(some 46), none, .buildSlice 3 1 [(I 0)] [(0, 1, (t 45))]⟩,
          ⟨(some 47), none, .append 3 1 8 (t 44) (t 46)⟩,
          ⟨(some 3), none, .mov (t 47)⟩]))))
      (.ops [⟨(some 12), none, .mov (t 4)⟩,
        ⟨(some 13), none, .arith .add (t 12) (v (I 1))⟩,
        ⟨(some 4), none, .mov (t 13)⟩]))))))
  (.seq (.ops [⟨(some 48), none, .mov (t 3)⟩,
    ⟨(some 2), none, .mov (t 48)⟩])
  .ret))))⟩

/- raddle/raddlelaw23.FlowDominates$1 -/
def ir19 : IFunc := ⟨7, [.tmp 2],
  (.seq (.ops [⟨(some 1), none, .box 26 (t 0)⟩,
    ⟨(some 2), none, .mov (v (.bool false))⟩])
  (.seq (.ops [⟨(some 3), none, .fieldAddr 2 (t 1)⟩,
    ⟨(some 4), none, .load none (t 3)⟩,
    ⟨(some 5), none, .lenSl (t 4)⟩,
    ⟨(some 6), none, .arith .gtr (t 5) (v (I 6))⟩,
    ⟨(some 2), none, .mov (t 6)⟩])
  .ret))⟩

/- slices.Clone[[]raddle/flow.Block,raddle/flow.Block] -/
def ir20 : IFunc := ⟨8, [.tmp 2],
  (.seq (.ops [⟨(some 2), none, .mov (v (.slice none 0 0))⟩])
  (.seq (.seq (.ops [⟨(some 3), none, .mov (t 0)⟩,
    ⟨(some 4), none, .eqNil .slice false (t 3) (v (.slice none 0 0))⟩])
  (.cond (t 4)
    (.seq (.ops [⟨(some 2), none, .mov (v (.slice none 0 0))⟩])
    .ret)
    .skip))
  (.seq (.ops [⟨(some 5), none, .buildSlice 30 0 [] []⟩,
    ⟨(some 6), none, .mov (t 0)⟩,
    ⟨(some 7), none, .append 30 3 40 (t 5) (t 6)⟩,
    ⟨(some 2), none, .mov (t 7)⟩])
  .ret)))⟩

/- slices.Contains[[]int,int] -/
def ir21 : IFunc := ⟨9, [.tmp 4],
  (.seq (.ops [⟨(some 4), none, .mov (v (.bool false))⟩])
  (.seq (.ops [⟨(some 5), none, .mov (t 0)⟩,
    ⟨(some 6), none, .mov (t 1)⟩,
    ⟨(some 7), none, .call (v (Fn 39)) [(t 5), (t 6)]⟩,
    ⟨(some 8), none, .arith .geq (t 7) (v (I 0))⟩,
    ⟨(some 4), none, .mov (t 8)⟩])
  .ret))⟩

/- slices.IsSorted[[]int,int] -/
def ir22 : IFunc := ⟨21, [.tmp 2],
  (.seq (.ops [⟨(some 2), none, .mov (v (.bool false))⟩])
  (.seq (.seq (.ops [⟨(some 4), none, .mov (t 0)⟩,
    ⟨(some 5), none, .lenSl (t 4)⟩,
    ⟨(some 6), none, .arith .sub (t 5) (v (I 1))⟩,
    ⟨(some 3), none, .mov (t 6)⟩])
  (.block 0
    (.loop
      (.seq (.seq (.ops [⟨(some 7), none, .mov (t 3)⟩,
        ⟨(some 8), none, .arith .gtr (t 7) (v (I 0))⟩])
      (.cond (t 8)
        .skip
        (.exit 0)))
      (.seq (.block 1
        (.seq (.draw [⟨(some 11), none, .mov (t 0)⟩,
          ⟨(some 12), none, .mov (t 3)⟩,
          ⟨(some 13), none, .indexAddr 1 (t 11) (t 12)⟩,
          ⟨(some 14), none, .load none (t 13)⟩,
          ⟨(some 15), none, .mov (t 0)⟩,
          ⟨(some 16), none, .mov (t 3)⟩,
          ⟨(some 17), none, .arith .sub (t 16) (v (I 1))⟩,
          ⟨(some 18), none, .indexAddr 1 (t 15) (t 17)⟩,
          ⟨(some 19), none, .load none (t 18)⟩]
          [⟨(some 20), none, .call (v (Fn 40)) [(t 14), (t 19)]⟩])
        (.cond (t 20)
          (.seq (.ops [⟨(some 2), none, .mov (v (.bool false))⟩])
          .ret)
          .skip)))
      (.ops [⟨(some 9), none, .mov (t 3)⟩,
        ⟨(some 10), none, .arith .sub (t 9) (v (I 1))⟩,
        ⟨(some 3), none, .mov (t 10)⟩]))))))
  (.seq (.ops [⟨(some 2), none, .mov (v (.bool true))⟩])
  .ret)))⟩

/- slices.IndexFunc[[]raddle/raddleref23.Block,raddle/raddleref23.Block] -/
def ir29 : IFunc := ⟨19, [.tmp 4],
  (.seq (.ops [⟨(some 4), none, .mov (v (I 0))⟩])
  (.seq (.seq (.ops [⟨(some 6), none, .mov (t 0)⟩,
    ⟨(some 7), none, .lenSl (t 6)⟩,
    ⟨(some 8), none, .mov (v (I 0))⟩])
  (.block 0
    (.loop
      (.seq (.ops [⟨(some 9), none, .arith .lss (t 8) (t 7)⟩])
      (.seq (.cond (t 9)
        .skip
        (.exit 0))
      (.seq (.block 1
        (.seq (.ops [⟨(some 10), none, .mov (t 8)⟩,
          ⟨(some 5), none, .mov (t 10)⟩])
        (.seq (.ops [⟨(some 11), none, .mov (t 1)⟩,
          ⟨(some 12), none, .mov (t 0)⟩,
          ⟨(some 13), none, .mov (t 5)⟩,
          ⟨(some 14), none, .indexAddr 3 (t 12) (t 13)⟩,
          ⟨(some 15), none, .load (some 3) (t 14)⟩,
          ⟨(some 16), none, .call (t 11) [(t 15)]⟩])
        (.cond (t 16)
          (.seq (.ops [⟨(some 17), none, .mov (t 5)⟩,
            ⟨(some 4), none, .mov (t 17)⟩])
          .ret)
          .skip))))
      (.ops [⟨(some 18), none, .arith .add (t 8) (v (I 1))⟩,
        ⟨(some 8), none, .mov (t 18)⟩])))))))
  (.seq (.ops [⟨(some 4), none, .mov (v (I (-1)))⟩])
  .ret)))⟩

/- raddle/flow.Blocks -/
def ir30 : IFunc := ⟨20, [.tmp 4, .tmp 5],
  (.seq (.ops [⟨(some 2), none, .box 53 (t 0)⟩,
    ⟨(some 4), none, .mov (v (.slice none 0 0))⟩,
    ⟨(some 5), none, .mov (v (I 0))⟩])
  (.seq (.ops [⟨(some 9), none, .load (some 2) (t 2)⟩,
    ⟨(some 10), none, .mov (t 1)⟩,
    ⟨(some 11), none, .call (v (Fn 41)) [(t 9), (t 10)]⟩,
    ⟨(some 8), none, .mov (t 11)⟩,
    ⟨(some 12), none, .extract (t 8) 0⟩,
    ⟨(some 13), none, .extract (t 8) 1⟩,
    ⟨(some 6), none, .box 65 (v (.agg #[(S []), (I 0), (I 0), (.slice none 0 0)]))⟩,
    ⟨none, none, .store 4 (t 6) (t 12)⟩,
    ⟨(some 7), none, .mov (t 13)⟩])
  (.seq (.seq (.ops [⟨(some 14), none, .mov (t 7)⟩,
    ⟨(some 15), none, .arith .neq (t 14) (v (I 0))⟩])
  (.cond (t 15)
    (.seq (.ops [⟨(some 16), none, .mov (t 7)⟩,
      ⟨(some 4), none, .mov (v (.slice none 0 0))⟩,
      ⟨(some 5), none, .mov (t 16)⟩])
    .ret)
    .skip))
  (.seq (.ops [⟨(some 17), none, .fieldAddr 3 (t 6)⟩,
    ⟨(some 18), none, .load none (t 17)⟩,
    ⟨(some 19), none, .call (v (Fn 60)) [(t 18)]⟩,
    ⟨(some 4), none, .mov (t 19)⟩,
    ⟨(some 5), none, .mov (v (I 0))⟩])
  .ret))))⟩

/- raddle/flow.dominates -/
def ir31 : IFunc := ⟨57, [.tmp 2],
  (.seq (.ops [⟨(some 2), none, .mov (v (.slice none 0 0))⟩])
  (.seq (.ops [⟨(some 8), none, .mov (t 0)⟩,
    ⟨(some 9), none, .call (v (Fn 15)) [(t 8)]⟩,
    ⟨(some 3), none, .mov (t 9)⟩])
  (.seq (.ops [⟨(some 10), none, .mov (t 0)⟩,
    ⟨(some 11), none, .lenSl (t 10)⟩,
    ⟨(some 12), none, .makeSlice 42 24 [(.slice none 0 0)] (t 11) (t 11)⟩,
    ⟨(some 4), none, .mov (t 12)⟩])
  (.seq (.seq (.ops [⟨(some 13), none, .mov (t 0)⟩,
    ⟨(some 14), none, .lenSl (t 13)⟩,
    ⟨(some 15), none, .mov (v (I 0))⟩])
  (.block 0
    (.loop
      (.seq (.ops [⟨(some 16), none, .arith .lss (t 15) (t 14)⟩])
      (.seq (.cond (t 16)
        .skip
        (.exit 0))
      (.seq (.block 1
        (.seq (.ops [⟨(some 17), none, .mov (t 15)⟩,
          ⟨(some 5), none, .mov (t 17)⟩])
        (.seq (.ops [⟨(some 18), none, .mov (t 4)⟩,
          ⟨(some 19), none, .mov (t 5)⟩,
          ⟨(some 20), none, .mov (t 0)⟩,
          ⟨(some 21), none, .lenSl (t 20)⟩,
          ⟨(some 22), none, .makeSlice 4 1 [(.bool false)] (t 21) (t 21)⟩,
          ⟨(some 23), none, .indexAddr 1 (t 18) (t 19)⟩,
          ⟨none, none, .store 1 (t 23) (t 22)⟩])
        (.seq (.seq (.ops [⟨(some 24), none, .mov (t 3)⟩,
          ⟨(some 25), none, .mov (t 5)⟩,
          ⟨(some 26), none, .indexAddr 1 (t 24) (t 25)⟩,
          ⟨(some 27), none, .load none (t 26)⟩,
          ⟨(some 28), none, .un .not (t 27)⟩])
        (.cond (t 28)
          (.exit 1)
          .skip))
        (.seq (.ops [⟨(some 29), none, .mov (t 0)⟩,
          ⟨(some 30), none, .mov (t 5)⟩,
          ⟨(some 31), none, .call (v (Fn 36)) [(t 29), (t 30)]⟩,
          ⟨(some 6), none, .mov (t 31)⟩])
        (.seq (.ops [⟨(some 32), none, .mov (t 0)⟩,
          ⟨(some 33), none, .lenSl (t 32)⟩,
          ⟨(some 34), none, .mov (v (I 0))⟩])
        (.block 2
          (.loop
            (.seq (.ops [⟨(some 35), none, .arith .lss (t 34) (t 33)⟩])
            (.seq (.cond (t 35)
              .skip
              (.exit 2))
            (.seq (.block 3
              (.seq (.ops [⟨(some 36), none, .mov (t 34)⟩,
                ⟨(some 7), none, .mov (t 36)⟩])
              (.draw [⟨(some 37), none, .mov (t 4)⟩,
                ⟨(some 38), none, .mov (t 5)⟩,
                ⟨(some 39), none, .indexAddr 1 (t 37) (t 38)⟩,
                ⟨(some 40), none, .load none (t 39)⟩,
                ⟨(some 41), none, .mov (t 7)⟩,
                ⟨(some 42), none, .mov (t 3)⟩,
                ⟨(some 43), none, .mov (t 7)⟩,
                ⟨(some 44), none, .indexAddr 1 (t 42) (t 43)⟩,
                ⟨(some 45), none, .load none (t 44)⟩,
                ⟨(some 46), none, .mov (t 45)⟩,
                ⟨(some 47), some (46, true), .mov (t 6)⟩,
                ⟨(some 48), some (46, true), .mov (t 7)⟩,
                ⟨(some 49), some (46, true), .indexAddr 1 (t 47) (t 48)⟩,
                ⟨(some 50), some (46, true), .load none (t 49)⟩,
                ⟨(some 51), some (46, true), .un .not (t 50)⟩,
                ⟨(some 52), none, .pick (t 46) (t 51) (v (.bool false))⟩]
                [⟨(some 53), none, .indexAddr 1 (t 40) (t 41)⟩,
                ⟨none, none, .store 1 (t 53) (t 52)⟩])))
            (.ops [⟨(some 54), none, .arith .add (t 34) (v (I 1))⟩,
              ⟨(some 34), none, .mov (t 54)⟩]))))))))))))
      (.ops [⟨(some 55), none, .arith .add (t 15) (v (I 1))⟩,
        ⟨(some 15), none, .mov (t 55)⟩])))))))
  (.seq (.ops [⟨(some 56), none, .mov (t 4)⟩,
    ⟨(some 2), none, .mov (t 56)⟩])
  .ret)))))⟩

/- raddle/flow.following -/
def ir32 : IFunc := ⟨6, [.tmp 4],
  (.seq (.ops [⟨(some 2), none, .box 29 (t 0)⟩,
    ⟨(some 3), none, .box 3 (t 1)⟩,
    ⟨(some 4), none, .mov (v .nilFunc)⟩])
  (.seq (.ops [⟨(some 5), none, .func 61 [] [(t 2), (t 3)]⟩,
    ⟨(some 4), none, .mov (t 5)⟩])
  .ret))⟩

/- raddle/raddleref23.back -/
def ir33 : IFunc := ⟨20, [.tmp 6],
  (.seq (.ops [⟨(some 6), none, .mov (v (.bool false))⟩])
  (.seq (.ops [⟨(some 7), none, .mov (t 0)⟩,
    ⟨(some 8), none, .mov (t 1)⟩,
    ⟨(some 9), none, .indexAddr 3 (t 7) (t 8)⟩,
    ⟨(some 10), none, .fieldAddr 2 (t 9)⟩,
    ⟨(some 11), none, .load none (t 10)⟩,
    ⟨(some 12), none, .mov (t 2)⟩,
    ⟨(some 13), none, .call (v (Fn 35)) [(t 11), (t 12)]⟩,
    ⟨(some 14), none, .mov (t 13)⟩,
    ⟨(some 15), some (14, true), .mov (t 0)⟩,
    ⟨(some 16), some (14, true), .mov (t 2)⟩,
    ⟨(some 17), some (14, true), .mov (t 1)⟩,
    ⟨(some 18), some (14, true), .call (v (Fn 38)) [(t 15), (t 16), (t 17)]⟩,
    ⟨(some 19), none, .pick (t 14) (t 18) (v (.bool false))⟩,
    ⟨(some 6), none, .mov (t 19)⟩])
  .ret))⟩

/- raddle/raddleref23.Put -/
def ir34 : IFunc := ⟨36, [.tmp 4],
  (.seq (.ops [⟨(some 4), none, .mov (v (.slice none 0 0))⟩])
  (.seq (.seq (.ops [⟨(some 6), none, .mov (t 0)⟩,
    ⟨(some 7), none, .mov (t 1)⟩,
    ⟨(some 8), none, .call (v (Fn 35)) [(t 6), (t 7)]⟩])
  (.cond (t 8)
    (.seq (.ops [⟨(some 9), none, .mov (t 0)⟩,
      ⟨(some 4), none, .mov (t 9)⟩])
    .ret)
    .skip))
  (.seq (.ops [⟨(some 5), none, .mov (v (I 0))⟩])
  (.seq (.block 0
    (.loop
      (.seq (.seq (.ops [⟨(some 10), none, .mov (t 5)⟩,
        ⟨(some 11), none, .mov (t 0)⟩,
        ⟨(some 12), none, .lenSl (t 11)⟩,
        ⟨(some 13), none, .arith .lss (t 10) (t 12)⟩,
        ⟨(some 14), none, .mov (t 13)⟩,
        ⟨(some 15), some (14, true), .mov (t 0)⟩,
        ⟨(some 16), some (14, true), .mov (t 5)⟩,
        ⟨(some 17), some (14, true), .indexAddr 1 (t 15) (t 16)⟩,
        ⟨(some 18), some (14, true), .load none (t 17)⟩,
        ⟨(some 19), some (14, true), .mov (t 1)⟩,
        ⟨(some 20), some (14, true), .arith .lss (t 18) (t 19)⟩,
        ⟨(some 21), none, .pick (t 14) (t 20) (v (.bool false))⟩])
      (.cond (t 21)
        .skip
        (.exit 0)))
      (.block 1
        (.ops [⟨(some 22), none, .mov (t 5)⟩,
          ⟨(some 23), none, .arith .add (t 22) (v (I 1))⟩,
          ⟨(some 5), none, .mov (t 23)⟩])))))
  (.seq (.draw [⟨(some 24), none, .buildSlice 3 0 [] []⟩,
    ⟨(some 25), none, .mov (t 0)⟩,
    ⟨(some 26), none, .mov (t 5)⟩,
    ⟨(some 27), none, .slice 3 1 (t 25) none (some (t 26)) none⟩,
    ⟨(some 28), none, .append 3 1 8 (t 24) (t 27)⟩,
    ⟨(some 29), none, .mov (t 1)⟩,
    ⟨(some 30), none, .buildSlice 3 1 [(I 0)] [(0, 1, (t 29))]⟩,
    ⟨(some 31), none, .append 3 1 8 (t 28) (t 30)⟩,
    ⟨(some 32), none, .mov (t 0)⟩,
    ⟨(some 33), none, .mov (t 5)⟩,
    ⟨(some 34), none, .slice 3 1 (t 32) (some (t 33)) none none⟩]
    [⟨(some 35), none, .append 3 1 8 (t 31) (t 34)⟩,
    ⟨(some 4), none, .mov (t 35)⟩])
  .ret)))))⟩

/- raddle/raddleref23.Has -/
def ir35 : IFunc := ⟨18, [.tmp 4],
  (.seq (.ops [⟨(some 4), none, .mov (v (.bool false))⟩])
  (.seq (.seq (.ops [⟨(some 5), none, .mov (v (I 0))⟩])
  (.block 0
    (.loop
      (.seq (.seq (.ops [⟨(some 6), none, .mov (t 5)⟩,
        ⟨(some 7), none, .mov (t 0)⟩,
        ⟨(some 8), none, .lenSl (t 7)⟩,
        ⟨(some 9), none, .arith .lss (t 6) (t 8)⟩])
      (.cond (t 9)
        .skip
        (.exit 0)))
      (.seq (.block 1
        (.seq (.ops [⟨(some 12), none, .mov (t 0)⟩,
          ⟨(some 13), none, .mov (t 5)⟩,
          ⟨(some 14), none, .indexAddr 1 (t 12) (t 13)⟩,
          ⟨(some 15), none, .load none (t 14)⟩,
          ⟨(some 16), none, .mov (t 1)⟩,
          ⟨(some 17), none, .arith .eql (t 15) (t 16)⟩])
        (.cond (t 17)
          (.seq (.ops [⟨(some 4), none, .mov (v (.bool true))⟩])
          .ret)
          .skip)))
      (.ops [⟨(some 10), none, .mov (t 5)⟩,
        ⟨(some 11), none, .arith .add (t 10) (v (I 1))⟩,
        ⟨(some 5), none, .mov (t 11)⟩]))))))
  (.seq (.ops [⟨(some 4), none, .mov (v (.bool false))⟩])
  .ret)))⟩

/- raddle/flow.without -/
def ir36 : IFunc := ⟨59, [.tmp 4],
  (.seq (.ops [⟨(some 3), none, .box 3 (t 1)⟩,
    ⟨(some 4), none, .mov (v (.slice none 0 0))⟩])
  (.seq (.ops [⟨(some 9), none, .mov (t 0)⟩,
    ⟨(some 10), none, .lenSl (t 9)⟩,
    ⟨(some 11), none, .makeSlice 4 1 [(.bool false)] (t 10) (t 10)⟩,
    ⟨(some 5), none, .box 42 (v (.slice none 0 0))⟩,
    ⟨none, none, .store 1 (t 5) (t 11)⟩])
  (.seq (.seq (.ops [⟨(some 12), none, .mov (t 0)⟩,
    ⟨(some 13), none, .lenSl (t 12)⟩,
    ⟨(some 14), none, .arith .eql (t 13) (v (I 0))⟩,
    ⟨(some 15), none, .mov (t 14)⟩,
    ⟨(some 16), some (15, false), .load none (t 3)⟩,
    ⟨(some 17), some (15, false), .arith .eql (t 16) (v (I 0))⟩,
    ⟨(some 18), none, .pick (t 15) (v (.bool true)) (t 17)⟩])
  (.cond (t 18)
    (.seq (.ops [⟨(some 19), none, .load none (t 5)⟩,
      ⟨(some 4), none, .mov (t 19)⟩])
    .ret)
    .skip))
  (.seq (.ops [⟨(some 20), none, .load none (t 5)⟩,
    ⟨(some 21), none, .indexAddr 1 (t 20) (v (I 0))⟩,
    ⟨none, none, .store 1 (t 21) (v (.bool true))⟩])
  (.seq (.ops [⟨(some 22), none, .buildSlice 3 1 [(I 0)] [(0, 1, (v (I 0)))]⟩,
    ⟨(some 6), none, .box 24 (v (.slice none 0 0))⟩,
    ⟨none, none, .store 1 (t 6) (t 22)⟩])
  (.seq .skip
  (.seq (.block 0
    (.loop
      (.block 1
        (.seq (.seq (.ops [⟨(some 23), none, .load none (t 6)⟩,
          ⟨(some 24), none, .lenSl (t 23)⟩,
          ⟨(some 25), none, .arith .eql (t 24) (v (I 0))⟩])
        (.cond (t 25)
          (.exit 0)
          .skip))
        (.seq (.ops [⟨(some 26), none, .load none (t 6)⟩,
          ⟨(some 27), none, .load none (t 6)⟩,
          ⟨(some 28), none, .lenSl (t 27)⟩,
          ⟨(some 29), none, .arith .sub (t 28) (v (I 1))⟩,
          ⟨(some 30), none, .indexAddr 1 (t 26) (t 29)⟩,
          ⟨(some 31), none, .load none (t 30)⟩,
          ⟨(some 7), none, .mov (t 31)⟩])
        (.seq (.ops [⟨(some 32), none, .load none (t 6)⟩,
          ⟨(some 33), none, .load none (t 6)⟩,
          ⟨(some 34), none, .lenSl (t 33)⟩,
          ⟨(some 35), none, .arith .sub (t 34) (v (I 1))⟩,
          ⟨(some 36), none, .slice 3 1 (t 32) none (some (t 35)) none⟩,
          ⟨none, none, .store 1 (t 6) (t 36)⟩])
        (.seq (.ops [⟨(some 37), none, .mov (t 0)⟩,
          ⟨(some 38), none, .mov (t 7)⟩,
          ⟨(some 39), none, .call (v (Fn 32)) [(t 37), (t 38)]⟩])
        (.block 2
          (.rangeFunc (t 39) [40]
            (.ops [⟨(some 8), none, .mov (t 40)⟩])
            (.block 3
              (.seq (.ops [⟨(some 41), none, .mov (t 8)⟩,
                ⟨(some 42), none, .load none (t 3)⟩,
                ⟨(some 43), none, .arith .neq (t 41) (t 42)⟩,
                ⟨(some 44), none, .mov (t 43)⟩,
                ⟨(some 45), some (44, true), .load none (t 5)⟩,
                ⟨(some 46), some (44, true), .mov (t 8)⟩,
                ⟨(some 47), some (44, true), .indexAddr 1 (t 45) (t 46)⟩,
                ⟨(some 48), some (44, true), .load none (t 47)⟩,
                ⟨(some 49), some (44, true), .un .not (t 48)⟩,
                ⟨(some 50), none, .pick (t 44) (t 49) (v (.bool false))⟩])
              (.cond (t 50)
                (.seq (.ops [⟨(some 51), none, .load none (t 5)⟩,
                  ⟨(some 52), none, .mov (t 8)⟩,
                  ⟨(some 53), none, .indexAddr 1 (t 51) (t 52)⟩,
                  ⟨none, none, .store 1 (t 53) (v (.bool true))⟩])
                (.ops [⟨(some 54), none, .load none (t 6)⟩,
                  ⟨(some 55), none, .mov (t 8)⟩,
                  ⟨(some 56), none, .buildSlice 3 1 [(I 0)] [(0, 1, (t 55))]⟩,
                  ⟨(some 57), none, .append 3 1 8 (t 54) (t 56)⟩,
                  ⟨none, none, .store 1 (t 6) (t 57)⟩]))
                .skip))))))))))))
  (.seq (.ops [⟨(some 58), none, .load none (t 5)⟩,
    ⟨(some 4), none, .mov (t 58)⟩])
  .ret))))))))⟩

/- raddle/raddleref23.reach -/
def ir37 : IFunc := ⟨78, [.tmp 4],
  (.seq (.ops [⟨(some 4), none, .mov (v (.slice none 0 0))⟩])
  (.seq (.ops [⟨(some 10), none, .mov (t 0)⟩,
    ⟨(some 11), none, .lenSl (t 10)⟩,
    ⟨(some 12), none, .makeSlice 4 1 [(.bool false)] (t 11) (t 11)⟩,
    ⟨(some 5), none, .mov (t 12)⟩])
  (.seq (.seq (.ops [⟨(some 13), none, .mov (t 0)⟩,
    ⟨(some 14), none, .lenSl (t 13)⟩,
    ⟨(some 15), none, .arith .eql (t 14) (v (I 0))⟩,
    ⟨(some 16), none, .mov (t 15)⟩,
    ⟨(some 17), some (16, false), .mov (t 1)⟩,
    ⟨(some 18), some (16, false), .arith .eql (t 17) (v (I 0))⟩,
    ⟨(some 19), none, .pick (t 16) (v (.bool true)) (t 18)⟩])
  (.cond (t 19)
    (.seq (.ops [⟨(some 20), none, .mov (t 5)⟩,
      ⟨(some 4), none, .mov (t 20)⟩])
    .ret)
    .skip))
  (.seq (.ops [⟨(some 21), none, .mov (t 5)⟩,
    ⟨(some 22), none, .indexAddr 1 (t 21) (v (I 0))⟩,
    ⟨none, none, .store 1 (t 22) (v (.bool true))⟩])
  (.seq (.seq (.ops [⟨(some 6), none, .mov (v (.bool true))⟩])
  (.block 0
    (.loop
      (.seq (.seq (.ops [⟨(some 23), none, .mov (t 6)⟩])
      (.cond (t 23)
        .skip
        (.exit 0)))
      (.block 1
        (.seq (.ops [⟨(some 6), none, .mov (v (.bool false))⟩])
        (.seq (.ops [⟨(some 7), none, .mov (v (I 0))⟩])
        (.block 2
          (.loop
            (.seq (.seq (.ops [⟨(some 24), none, .mov (t 7)⟩,
              ⟨(some 25), none, .mov (t 0)⟩,
              ⟨(some 26), none, .lenSl (t 25)⟩,
              ⟨(some 27), none, .arith .lss (t 24) (t 26)⟩])
            (.cond (t 27)
              .skip
              (.exit 2)))
            (.seq (.block 3
              (.seq (.ops [⟨(some 8), none, .mov (v (I 0))⟩])
              (.block 4
                (.loop
                  (.seq (.seq (.ops [⟨(some 30), none, .mov (t 8)⟩,
                    ⟨(some 31), none, .mov (t 0)⟩,
                    ⟨(some 32), none, .mov (t 7)⟩,
                    ⟨(some 33), none, .indexAddr 3 (t 31) (t 32)⟩,
                    ⟨(some 34), none, .fieldAddr 2 (t 33)⟩,
                    ⟨(some 35), none, .load none (t 34)⟩,
                    ⟨(some 36), none, .lenSl (t 35)⟩,
                    ⟨(some 37), none, .arith .lss (t 30) (t 36)⟩,
                    ⟨(some 38), none, .mov (t 37)⟩,
                    ⟨(some 39), some (38, true), .mov (t 5)⟩,
                    ⟨(some 40), some (38, true), .mov (t 7)⟩,
                    ⟨(some 41), some (38, true), .indexAddr 1 (t 39) (t 40)⟩,
                    ⟨(some 42), some (38, true), .load none (t 41)⟩,
                    ⟨(some 43), none, .pick (t 38) (t 42) (v (.bool false))⟩])
                  (.cond (t 43)
                    .skip
                    (.exit 4)))
                  (.seq (.block 5
                    (.seq (.ops [⟨(some 46), none, .mov (t 0)⟩,
                      ⟨(some 47), none, .mov (t 7)⟩,
                      ⟨(some 48), none, .indexAddr 3 (t 46) (t 47)⟩,
                      ⟨(some 49), none, .fieldAddr 2 (t 48)⟩,
                      ⟨(some 50), none, .load none (t 49)⟩,
                      ⟨(some 51), none, .mov (t 8)⟩,
                      ⟨(some 52), none, .indexAddr 1 (t 50) (t 51)⟩,
                      ⟨(some 53), none, .load none (t 52)⟩,
                      ⟨(some 9), none, .mov (t 53)⟩])
                    (.seq (.ops [⟨(some 54), none, .mov (t 9)⟩,
                      ⟨(some 55), none, .arith .geq (t 54) (v (I 0))⟩,
                      ⟨(some 56), none, .mov (t 55)⟩,
                      ⟨(some 57), some (56, true), .mov (t 9)⟩,
                      ⟨(some 58), some (56, true), .mov (t 0)⟩,
                      ⟨(some 59), some (56, true), .lenSl (t 58)⟩,
                      ⟨(some 60), some (56, true), .arith .lss (t 57) (t 59)⟩,
                      ⟨(some 61), none, .pick (t 56) (t 60) (v (.bool false))⟩,
                      ⟨(some 62), none, .mov (t 61)⟩,
                      ⟨(some 63), some (62, true), .mov (t 9)⟩,
                      ⟨(some 64), some (62, true), .mov (t 1)⟩,
                      ⟨(some 65), some (62, true), .arith .neq (t 63) (t 64)⟩,
                      ⟨(some 66), none, .pick (t 62) (t 65) (v (.bool false))⟩,
                      ⟨(some 67), none, .mov (t 66)⟩,
                      ⟨(some 68), some (67, true), .mov (t 5)⟩,
                      ⟨(some 69), some (67, true), .mov (t 9)⟩,
                      ⟨(some 70), some (67, true), .indexAddr 1 (t 68) (t 69)⟩,
                      ⟨(some 71), some (67, true), .load none (t 70)⟩,
                      ⟨(some 72), some (67, true), .un .not (t 71)⟩,
                      ⟨(some 73), none, .pick (t 67) (t 72) (v (.bool false))⟩])
                    (.cond (t 73)
                      (.seq (.ops [⟨(some 74), none, .mov (t 5)⟩,
                        ⟨(some 75), none, .mov (t 9)⟩,
                        ⟨(some 76), none, .indexAddr 1 (t 74) (t 75)⟩,
                        ⟨none, none, .store 1 (t 76) (v (.bool true))⟩])
                      (.ops [⟨(some 6), none, .mov (v (.bool true))⟩]))
                      .skip))))
                  (.ops [⟨(some 44), none, .mov (t 8)⟩,
                    ⟨(some 45), none, .arith .add (t 44) (v (I 1))⟩,
                    ⟨(some 8), none, .mov (t 45)⟩])))))))
            (.ops [⟨(some 28), none, .mov (t 7)⟩,
              ⟨(some 29), none, .arith .add (t 28) (v (I 1))⟩,
              ⟨(some 7), none, .mov (t 29)⟩]))))))))))))
  (.seq (.ops [⟨(some 77), none, .mov (t 5)⟩,
    ⟨(some 4), none, .mov (t 77)⟩])
  .ret))))))⟩

/- raddle/raddleref23.dominates -/
def ir38 : IFunc := ⟨26, [.tmp 6],
  (.seq (.ops [⟨(some 6), none, .mov (v (.bool false))⟩])
  (.seq (.ops [⟨(some 7), none, .mov (t 0)⟩,
    ⟨(some 8), none, .call (v (Fn 16)) [(t 7)]⟩,
    ⟨(some 9), none, .mov (t 2)⟩,
    ⟨(some 10), none, .indexAddr 1 (t 8) (t 9)⟩,
    ⟨(some 11), none, .load none (t 10)⟩,
    ⟨(some 12), none, .mov (t 11)⟩,
    ⟨(some 13), some (12, true), .mov (t 1)⟩,
    ⟨(some 14), some (12, true), .mov (t 2)⟩,
    ⟨(some 15), some (12, true), .arith .eql (t 13) (t 14)⟩,
    ⟨(some 16), some (12, true), .mov (t 15)⟩,
    ⟨(some 17), some (16, false), .mov (t 0)⟩,
    ⟨(some 18), some (16, false), .mov (t 1)⟩,
    ⟨(some 19), some (16, false), .call (v (Fn 37)) [(t 17), (t 18)]⟩,
    ⟨(some 20), some (16, false), .mov (t 2)⟩,
    ⟨(some 21), some (16, false), .indexAddr 1 (t 19) (t 20)⟩,
    ⟨(some 22), some (16, false), .load none (t 21)⟩,
    ⟨(some 23), some (16, false), .un .not (t 22)⟩,
    ⟨(some 24), some (12, true), .pick (t 16) (v (.bool true)) (t 23)⟩,
    ⟨(some 25), none, .pick (t 12) (t 24) (v (.bool false))⟩,
    ⟨(some 6), none, .mov (t 25)⟩])
  .ret))⟩

/- slices.Index[[]int,int] -/
def ir39 : IFunc := ⟨19, [.tmp 4],
  (.seq (.ops [⟨(some 4), none, .mov (v (I 0))⟩])
  (.seq (.seq (.ops [⟨(some 6), none, .mov (t 0)⟩,
    ⟨(some 7), none, .lenSl (t 6)⟩,
    ⟨(some 8), none, .mov (v (I 0))⟩])
  (.block 0
    (.loop
      (.seq (.ops [⟨(some 9), none, .arith .lss (t 8) (t 7)⟩])
      (.seq (.cond (t 9)
        .skip
        (.exit 0))
      (.seq (.block 1
        (.seq (.ops [⟨(some 10), none, .mov (t 8)⟩,
          ⟨(some 5), none, .mov (t 10)⟩])
        (.seq (.ops [⟨(some 11), none, .mov (t 1)⟩,
          ⟨(some 12), none, .mov (t 0)⟩,
          ⟨(some 13), none, .mov (t 5)⟩,
          ⟨(some 14), none, .indexAddr 1 (t 12) (t 13)⟩,
          ⟨(some 15), none, .load none (t 14)⟩,
          ⟨(some 16), none, .arith .eql (t 11) (t 15)⟩])
        (.cond (t 16)
          (.seq (.ops [⟨(some 17), none, .mov (t 5)⟩,
            ⟨(some 4), none, .mov (t 17)⟩])
          .ret)
          .skip))))
      (.ops [⟨(some 18), none, .arith .add (t 8) (v (I 1))⟩,
        ⟨(some 8), none, .mov (t 18)⟩])))))))
  (.seq (.ops [⟨(some 4), none, .mov (v (I (-1)))⟩])
  .ret)))⟩

/- cmp.Less[int] -/
def ir40 : IFunc := ⟨17, [.tmp 4],
  (.seq (.ops [⟨(some 4), none, .mov (v (.bool false))⟩])
  (.seq (.ops [⟨(some 5), none, .mov (t 0)⟩,
    ⟨(some 6), none, .call (v (Fn 62)) [(t 5)]⟩,
    ⟨(some 7), none, .mov (t 6)⟩,
    ⟨(some 8), some (7, true), .mov (t 1)⟩,
    ⟨(some 9), some (7, true), .call (v (Fn 62)) [(t 8)]⟩,
    ⟨(some 10), some (7, true), .un .not (t 9)⟩,
    ⟨(some 11), none, .pick (t 7) (t 10) (v (.bool false))⟩,
    ⟨(some 12), none, .mov (t 11)⟩,
    ⟨(some 13), some (12, false), .mov (t 0)⟩,
    ⟨(some 14), some (12, false), .mov (t 1)⟩,
    ⟨(some 15), some (12, false), .arith .lss (t 13) (t 14)⟩,
    ⟨(some 16), none, .pick (t 12) (v (.bool true)) (t 15)⟩,
    ⟨(some 4), none, .mov (t 16)⟩])
  .ret))⟩

/- raddle/flow.given -/
def ir41 : IFunc := ⟨28, [.cell 4 (some 4), .tmp 5],
  (.seq (.ops [⟨(some 2), none, .box 53 (t 0)⟩,
    ⟨(some 4), none, .box 65 (v (.agg #[(S []), (I 0), (I 0), (.slice none 0 0)]))⟩,
    ⟨(some 5), none, .mov (v (I 0))⟩])
  (.seq (.seq (.ops [⟨(some 7), none, .load (some 2) (t 2)⟩,
    ⟨(some 8), none, .call (v (Fn 63)) [(t 7)]⟩,
    ⟨(some 6), none, .mov (t 8)⟩])
  (.seq (.ops [⟨(some 9), none, .mov (t 6)⟩,
    ⟨(some 10), none, .arith .neq (t 9) (v (I 0))⟩])
  (.cond (t 10)
    (.seq (.ops [⟨(some 11), none, .build [(S []), (I 0), (I 0), (.slice none 0 0)] []⟩,
      ⟨(some 12), none, .mov (t 6)⟩,
      ⟨none, none, .store 4 (t 4) (t 11)⟩,
      ⟨(some 5), none, .mov (t 12)⟩])
    .ret)
    .skip)))
  (.seq (.seq (.ops [⟨(some 13), none, .mov (t 1)⟩,
    ⟨(some 14), none, .arith .lss (t 13) (v (I 0))⟩,
    ⟨(some 15), none, .mov (t 14)⟩,
    ⟨(some 16), some (15, false), .mov (t 1)⟩,
    ⟨(some 17), some (15, false), .fieldAddr 1 (t 2)⟩,
    ⟨(some 18), some (15, false), .load none (t 17)⟩,
    ⟨(some 19), some (15, false), .lenSl (t 18)⟩,
    ⟨(some 20), some (15, false), .arith .geq (t 16) (t 19)⟩,
    ⟨(some 21), none, .pick (t 15) (v (.bool true)) (t 20)⟩])
  (.cond (t 21)
    (.seq (.ops [⟨(some 22), none, .build [(S []), (I 0), (I 0), (.slice none 0 0)] []⟩,
      ⟨none, none, .store 4 (t 4) (t 22)⟩,
      ⟨(some 5), none, .mov (v (I 250))⟩])
    .ret)
    .skip))
  (.seq (.ops [⟨(some 23), none, .fieldAddr 1 (t 2)⟩,
    ⟨(some 24), none, .load none (t 23)⟩,
    ⟨(some 25), none, .mov (t 1)⟩,
    ⟨(some 26), none, .indexAddr 4 (t 24) (t 25)⟩,
    ⟨(some 27), none, .load (some 4) (t 26)⟩,
    ⟨none, none, .store 4 (t 4) (t 27)⟩,
    ⟨(some 5), none, .mov (v (I 0))⟩])
  .ret))))⟩

/- raddle/flow.blocks -/
def ir60 : IFunc := ⟨150, [.tmp 2],
  (.seq (.ops [⟨(some 2), none, .mov (v (.slice none 0 0))⟩])
  (.seq (.ops [⟨(some 15), none, .mov (t 0)⟩,
    ⟨(some 16), none, .lenSl (t 15)⟩,
    ⟨(some 17), none, .arith .add (t 16) (v (I 1))⟩,
    ⟨(some 18), none, .makeSlice 4 1 [(.bool false)] (t 17) (t 17)⟩,
    ⟨(some 3), none, .mov (t 18)⟩])
  (.seq (.ops [⟨(some 19), none, .mov (t 3)⟩,
    ⟨(some 20), none, .indexAddr 1 (t 19) (v (I 0))⟩,
    ⟨none, none, .store 1 (t 20) (v (.bool true))⟩])
  (.seq (.seq (.ops [⟨(some 21), none, .mov (t 0)⟩,
    ⟨(some 22), none, .lenSl (t 21)⟩,
    ⟨(some 23), none, .mov (v (I 0))⟩])
  (.block 0
    (.loop
      (.seq (.ops [⟨(some 24), none, .arith .lss (t 23) (t 22)⟩])
      (.seq (.cond (t 24)
        .skip
        (.exit 0))
      (.seq (.block 1
        (.seq (.ops [⟨(some 25), none, .mov (t 23)⟩,
          ⟨(some 26), none, .indexAddr 7 (t 21) (t 23)⟩,
          ⟨(some 27), none, .load (some 7) (t 26)⟩,
          ⟨(some 5), none, .box 62 (v (.agg #[(I 0), (I 0), (I 0), (I 0), (I 0), (S []), (.slice none 0 0)]))⟩,
          ⟨(some 4), none, .mov (t 25)⟩,
          ⟨none, none, .store 7 (t 5) (t 27)⟩])
        (.seq (.ops [⟨(some 29), none, .load (some 7) (t 5)⟩,
          ⟨(some 30), none, .call (v (Fn 72)) [(t 29)]⟩,
          ⟨(some 28), none, .mov (t 30)⟩,
          ⟨(some 31), none, .extract (t 28) 0⟩,
          ⟨(some 32), none, .extract (t 28) 1⟩,
          ⟨(some 6), none, .mov (t 31)⟩,
          ⟨(some 7), none, .mov (t 32)⟩])
        (.seq (.seq (.ops [⟨(some 33), none, .mov (t 7)⟩])
        (.cond (t 33)
          (.ops [⟨(some 34), none, .mov (t 3)⟩,
            ⟨(some 35), none, .fieldAddr 3 (t 5)⟩,
            ⟨(some 36), none, .load none (t 35)⟩,
            ⟨(some 37), none, .indexAddr 1 (t 34) (t 36)⟩,
            ⟨none, none, .store 1 (t 37) (v (.bool true))⟩])
          .skip))
        (.ops [⟨(some 38), none, .mov (t 3)⟩,
          ⟨(some 39), none, .mov (t 4)⟩,
          ⟨(some 40), none, .arith .add (t 39) (v (I 1))⟩,
          ⟨(some 41), none, .mov (t 3)⟩,
          ⟨(some 42), none, .mov (t 4)⟩,
          ⟨(some 43), none, .arith .add (t 42) (v (I 1))⟩,
          ⟨(some 44), none, .indexAddr 1 (t 41) (t 43)⟩,
          ⟨(some 45), none, .load none (t 44)⟩,
          ⟨(some 46), none, .mov (t 45)⟩,
          ⟨(some 47), some (46, false), .mov (t 6)⟩,
          ⟨(some 48), none, .pick (t 46) (v (.bool true)) (t 47)⟩,
          ⟨(some 49), none, .indexAddr 1 (t 38) (t 40)⟩,
          ⟨none, none, .store 1 (t 49) (t 48)⟩])))))
      (.ops [⟨(some 50), none, .arith .add (t 23) (v (I 1))⟩,
        ⟨(some 23), none, .mov (t 50)⟩])))))))
  (.seq (.ops [⟨(some 51), none, .mov (t 0)⟩,
    ⟨(some 52), none, .lenSl (t 51)⟩,
    ⟨(some 53), none, .arith .add (t 52) (v (I 1))⟩,
    ⟨(some 54), none, .makeSlice 3 8 [(I 0)] (t 53) (t 53)⟩,
    ⟨(some 8), none, .mov (t 54)⟩])
  (.seq (.ops [⟨(some 9), none, .mov (v (.slice none 0 0))⟩])
  (.seq (.seq (.ops [⟨(some 55), none, .mov (t 0)⟩,
    ⟨(some 56), none, .lenSl (t 55)⟩,
    ⟨(some 57), none, .mov (v (I 0))⟩])
  (.block 2
    (.loop
      (.seq (.ops [⟨(some 58), none, .arith .lss (t 57) (t 56)⟩])
      (.seq (.cond (t 58)
        .skip
        (.exit 2))
      (.seq (.block 3
        (.seq (.ops [⟨(some 59), none, .mov (t 57)⟩,
          ⟨(some 10), none, .mov (t 59)⟩])
        (.seq (.seq (.ops [⟨(some 60), none, .mov (t 3)⟩,
          ⟨(some 61), none, .mov (t 10)⟩,
          ⟨(some 62), none, .indexAddr 1 (t 60) (t 61)⟩,
          ⟨(some 63), none, .load none (t 62)⟩])
        (.cond (t 63)
          (.ops [⟨(some 64), none, .mov (t 9)⟩,
            ⟨(some 65), none, .mov (t 10)⟩,
            ⟨(some 66), none, .build [(I 0), (I 0), (.slice none 0 0)] [(0, 1, (t 65))]⟩,
            ⟨(some 67), none, .buildSlice 30 1 [(I 0), (I 0), (.slice none 0 0)] [(0, 3, (t 66))]⟩,
            ⟨(some 68), none, .append 30 3 40 (t 64) (t 67)⟩,
            ⟨(some 9), none, .mov (t 68)⟩])
          .skip))
        (.seq (.ops [⟨(some 69), none, .mov (t 8)⟩,
          ⟨(some 70), none, .mov (t 10)⟩,
          ⟨(some 71), none, .mov (t 9)⟩,
          ⟨(some 72), none, .lenSl (t 71)⟩,
          ⟨(some 73), none, .arith .sub (t 72) (v (I 1))⟩,
          ⟨(some 74), none, .indexAddr 1 (t 69) (t 70)⟩,
          ⟨none, none, .store 1 (t 74) (t 73)⟩])
        (.ops [⟨(some 75), none, .mov (t 9)⟩,
          ⟨(some 76), none, .mov (t 9)⟩,
          ⟨(some 77), none, .lenSl (t 76)⟩,
          ⟨(some 78), none, .arith .sub (t 77) (v (I 1))⟩,
          ⟨(some 79), none, .mov (t 10)⟩,
          ⟨(some 80), none, .arith .add (t 79) (v (I 1))⟩,
          ⟨(some 81), none, .indexAddr 3 (t 75) (t 78)⟩,
          ⟨(some 82), none, .fieldAddr 1 (t 81)⟩,
          ⟨none, none, .store 1 (t 82) (t 80)⟩])))))
      (.ops [⟨(some 83), none, .arith .add (t 57) (v (I 1))⟩,
        ⟨(some 57), none, .mov (t 83)⟩])))))))
  (.seq (.seq (.ops [⟨(some 84), none, .mov (t 9)⟩,
    ⟨(some 85), none, .lenSl (t 84)⟩,
    ⟨(some 86), none, .mov (v (I 0))⟩])
  (.block 4
    (.loop
      (.seq (.ops [⟨(some 87), none, .arith .lss (t 86) (t 85)⟩])
      (.seq (.cond (t 87)
        .skip
        (.exit 4))
      (.seq (.block 5
        (.seq (.ops [⟨(some 88), none, .mov (t 86)⟩,
          ⟨(some 11), none, .mov (t 88)⟩])
        (.seq (.ops [⟨(some 89), none, .mov (t 9)⟩,
          ⟨(some 90), none, .mov (t 11)⟩,
          ⟨(some 91), none, .indexAddr 3 (t 89) (t 90)⟩,
          ⟨(some 12), none, .mov (t 91)⟩])
        (.seq (.ops [⟨(some 92), none, .mov (t 0)⟩,
          ⟨(some 93), none, .mov (t 12)⟩,
          ⟨(some 94), none, .nilCheck (t 93)⟩,
          ⟨(some 95), none, .fieldAddr 1 (t 94)⟩,
          ⟨(some 96), none, .load none (t 95)⟩,
          ⟨(some 97), none, .arith .sub (t 96) (v (I 1))⟩,
          ⟨(some 98), none, .indexAddr 7 (t 92) (t 97)⟩,
          ⟨(some 99), none, .load (some 7) (t 98)⟩,
          ⟨(some 13), none, .box 62 (v (.agg #[(I 0), (I 0), (I 0), (I 0), (I 0), (S []), (.slice none 0 0)]))⟩,
          ⟨none, none, .store 7 (t 13) (t 99)⟩])
        (.seq (.ops [⟨(some 100), none, .fieldAddr 0 (t 13)⟩,
          ⟨(some 101), none, .load none (t 100)⟩])
        (.block 6
          (.seq (.ops [⟨(some 109), none, .arith .eql (t 101) (v (I 22))⟩,
            ⟨(some 108), none, .mov (t 109)⟩])
          (.cond (t 108)
            .skip
            (.seq (.ops [⟨(some 111), none, .arith .eql (t 101) (v (I 19))⟩,
              ⟨(some 110), none, .mov (t 111)⟩])
            (.cond (t 110)
              (.ops [⟨(some 112), none, .mov (t 12)⟩,
                ⟨(some 113), none, .mov (t 8)⟩,
                ⟨(some 114), none, .fieldAddr 3 (t 13)⟩,
                ⟨(some 115), none, .load none (t 114)⟩,
                ⟨(some 116), none, .indexAddr 1 (t 113) (t 115)⟩,
                ⟨(some 117), none, .load none (t 116)⟩,
                ⟨(some 118), none, .buildSlice 3 1 [(I 0)] [(0, 1, (t 117))]⟩,
                ⟨(some 119), none, .nilCheck (t 112)⟩,
                ⟨(some 120), none, .fieldAddr 2 (t 119)⟩,
                ⟨none, none, .store 1 (t 120) (t 118)⟩])
              (.seq (.ops [⟨(some 122), none, .arith .eql (t 101) (v (I 20))⟩,
                ⟨(some 121), none, .mov (t 122)⟩])
              (.cond (t 121)
                (.seq (.ops [⟨(some 123), none, .mov (t 12)⟩,
                  ⟨(some 124), none, .mov (t 11)⟩,
                  ⟨(some 125), none, .arith .add (t 124) (v (I 1))⟩,
                  ⟨(some 126), none, .buildSlice 3 1 [(I 0)] [(0, 1, (t 125))]⟩,
                  ⟨(some 127), none, .nilCheck (t 123)⟩,
                  ⟨(some 128), none, .fieldAddr 2 (t 127)⟩,
                  ⟨none, none, .store 1 (t 128) (t 126)⟩])
                (.seq (.ops [⟨(some 129), none, .mov (t 8)⟩,
                  ⟨(some 130), none, .fieldAddr 3 (t 13)⟩,
                  ⟨(some 131), none, .load none (t 130)⟩,
                  ⟨(some 132), none, .indexAddr 1 (t 129) (t 131)⟩,
                  ⟨(some 133), none, .load none (t 132)⟩,
                  ⟨(some 14), none, .mov (t 133)⟩])
                (.seq (.ops [⟨(some 134), none, .mov (t 14)⟩,
                  ⟨(some 135), none, .mov (t 11)⟩,
                  ⟨(some 136), none, .arith .add (t 135) (v (I 1))⟩,
                  ⟨(some 137), none, .arith .neq (t 134) (t 136)⟩])
                (.cond (t 137)
                  (.ops [⟨(some 138), none, .mov (t 12)⟩,
                    ⟨(some 139), none, .mov (t 12)⟩,
                    ⟨(some 140), none, .nilCheck (t 139)⟩,
                    ⟨(some 141), none, .fieldAddr 2 (t 140)⟩,
                    ⟨(some 142), none, .load none (t 141)⟩,
                    ⟨(some 143), none, .mov (t 14)⟩,
                    ⟨(some 144), none, .buildSlice 3 1 [(I 0)] [(0, 1, (t 143))]⟩,
                    ⟨(some 145), none, .append 3 1 8 (t 142) (t 144)⟩,
                    ⟨(some 146), none, .nilCheck (t 138)⟩,
                    ⟨(some 147), none, .fieldAddr 2 (t 146)⟩,
                    ⟨none, none, .store 1 (t 147) (t 145)⟩])
                  .skip))))
                (.ops [⟨(some 102), none, .mov (t 12)⟩,
                  ⟨(some 103), none, .mov (t 11)⟩,
                  ⟨(some 104), none, .arith .add (t 103) (v (I 1))⟩,
                  ⟨(some 105), none, .buildSlice 3 1 [(I 0)] [(0, 1, (t 104))]⟩,
                  ⟨(some 106), none, .nilCheck (t 102)⟩,
                  ⟨(some 107), none, .fieldAddr 2 (t 106)⟩,
                  ⟨none, none, .store 1 (t 107) (t 105)⟩])))))))))))))
      (.ops [⟨(some 148), none, .arith .add (t 86) (v (I 1))⟩,
        ⟨(some 86), none, .mov (t 148)⟩])))))))
  (.seq (.ops [⟨(some 149), none, .mov (t 9)⟩,
    ⟨(some 2), none, .mov (t 149)⟩])
  .ret)))))))))⟩

/- raddle/flow.following$1 -/
def ir61 : IFunc := ⟨31, [],
  (.seq (.ops [⟨(some 6), none, .load none (t 1)⟩,
    ⟨(some 7), none, .load none (t 2)⟩,
    ⟨(some 8), none, .indexAddr 3 (t 6) (t 7)⟩,
    ⟨(some 9), none, .fieldAddr 2 (t 8)⟩,
    ⟨(some 10), none, .load none (t 9)⟩,
    ⟨(some 11), none, .lenSl (t 10)⟩,
    ⟨(some 12), none, .mov (v (I 0))⟩])
  (.block 0
    (.loop
      (.seq (.ops [⟨(some 13), none, .arith .lss (t 12) (t 11)⟩])
      (.seq (.cond (t 13)
        .skip
        (.exit 0))
      (.seq (.block 1
        (.seq (.ops [⟨(some 14), none, .indexAddr 1 (t 10) (t 12)⟩,
          ⟨(some 15), none, .load none (t 14)⟩,
          ⟨(some 5), none, .mov (t 15)⟩])
        (.seq (.ops [⟨(some 16), none, .mov (t 5)⟩,
          ⟨(some 17), none, .arith .geq (t 16) (v (I 0))⟩,
          ⟨(some 18), none, .mov (t 17)⟩,
          ⟨(some 19), some (18, true), .mov (t 5)⟩,
          ⟨(some 20), some (18, true), .load none (t 1)⟩,
          ⟨(some 21), some (18, true), .lenSl (t 20)⟩,
          ⟨(some 22), some (18, true), .arith .lss (t 19) (t 21)⟩,
          ⟨(some 23), none, .pick (t 18) (t 22) (v (.bool false))⟩,
          ⟨(some 24), none, .mov (t 23)⟩,
          ⟨(some 25), some (24, true), .mov (t 0)⟩,
          ⟨(some 26), some (24, true), .mov (t 5)⟩,
          ⟨(some 27), some (24, true), .call (t 25) [(t 26)]⟩,
          ⟨(some 28), some (24, true), .un .not (t 27)⟩,
          ⟨(some 29), none, .pick (t 24) (t 28) (v (.bool false))⟩])
        (.cond (t 29)
          .ret
          .skip))))
      (.ops [⟨(some 30), none, .arith .add (t 12) (v (I 1))⟩,
        ⟨(some 12), none, .mov (t 30)⟩])))))))⟩

/- cmp.isNaN[int] -/
def ir62 : IFunc := ⟨6, [.tmp 2],
  (.seq (.ops [⟨(some 2), none, .mov (v (.bool false))⟩])
  (.seq (.ops [⟨(some 3), none, .mov (t 0)⟩,
    ⟨(some 4), none, .mov (t 0)⟩,
    ⟨(some 5), none, .arith .neq (t 3) (t 4)⟩,
    ⟨(some 2), none, .mov (t 5)⟩])
  .ret))⟩

/- raddle/lower.Check -/
def ir63 : IFunc := ⟨110, [.tmp 2],
  (.seq (.ops [⟨(some 1), none, .box 53 (t 0)⟩,
    ⟨(some 2), none, .mov (v (I 0))⟩])
  (.seq (.ops [⟨(some 3), none, .mov (v (I 0))⟩])
  (.seq (.seq (.ops [⟨(some 9), none, .fieldAddr 1 (t 1)⟩,
    ⟨(some 10), none, .load none (t 9)⟩,
    ⟨(some 11), none, .lenSl (t 10)⟩,
    ⟨(some 12), none, .mov (v (I 0))⟩])
  (.block 0
    (.loop
      (.seq (.ops [⟨(some 13), none, .arith .lss (t 12) (t 11)⟩])
      (.seq (.cond (t 13)
        .skip
        (.exit 0))
      (.seq (.block 1
        (.seq (.ops [⟨(some 14), none, .indexAddr 4 (t 10) (t 12)⟩,
          ⟨(some 15), none, .load (some 4) (t 14)⟩,
          ⟨(some 5), none, .box 65 (v (.agg #[(S []), (I 0), (I 0), (.slice none 0 0)]))⟩,
          ⟨none, none, .store 4 (t 5) (t 15)⟩])
        (.ops [⟨(some 16), none, .mov (t 3)⟩,
          ⟨(some 17), none, .fieldAddr 3 (t 5)⟩,
          ⟨(some 18), none, .load none (t 17)⟩,
          ⟨(some 19), none, .lenSl (t 18)⟩,
          ⟨(some 20), none, .arith .add (t 16) (t 19)⟩,
          ⟨(some 3), none, .mov (t 20)⟩])))
      (.ops [⟨(some 21), none, .arith .add (t 12) (v (I 1))⟩,
        ⟨(some 12), none, .mov (t 21)⟩])))))))
  (.seq (.block 2
    (.seq (.ops [⟨(some 23), none, .fieldAddr 1 (t 1)⟩,
      ⟨(some 24), none, .load none (t 23)⟩,
      ⟨(some 25), none, .lenSl (t 24)⟩,
      ⟨(some 26), none, .arith .eql (t 25) (v (I 0))⟩,
      ⟨(some 27), none, .mov (t 26)⟩,
      ⟨(some 28), some (27, false), .fieldAddr 1 (t 1)⟩,
      ⟨(some 29), some (27, false), .load none (t 28)⟩,
      ⟨(some 30), some (27, false), .lenSl (t 29)⟩,
      ⟨(some 31), some (27, false), .arith .gtr (t 30) (v (I 800))⟩,
      ⟨(some 32), none, .pick (t 27) (v (.bool true)) (t 31)⟩,
      ⟨(some 33), none, .mov (t 32)⟩,
      ⟨(some 34), some (33, false), .mov (t 3)⟩,
      ⟨(some 35), some (33, false), .arith .gtr (t 34) (v (I 20000))⟩,
      ⟨(some 36), none, .pick (t 33) (v (.bool true)) (t 35)⟩,
      ⟨(some 37), none, .mov (t 36)⟩,
      ⟨(some 38), some (37, false), .fieldAddr 0 (t 1)⟩,
      ⟨(some 39), some (37, false), .load none (t 38)⟩,
      ⟨(some 40), some (37, false), .arith .lss (t 39) (v (I 0))⟩,
      ⟨(some 41), none, .pick (t 37) (v (.bool true)) (t 40)⟩,
      ⟨(some 42), none, .mov (t 41)⟩,
      ⟨(some 43), some (42, false), .fieldAddr 0 (t 1)⟩,
      ⟨(some 44), some (42, false), .load none (t 43)⟩,
      ⟨(some 45), some (42, false), .arith .gtr (t 44) (v (I 1000))⟩,
      ⟨(some 46), none, .pick (t 42) (v (.bool true)) (t 45)⟩,
      ⟨(some 22), none, .mov (t 46)⟩])
    (.cond (t 22)
      (.seq (.ops [⟨(some 2), none, .mov (v (I 5))⟩])
      .ret)
      (.seq (.ops [⟨(some 48), none, .fieldAddr 1 (t 1)⟩,
        ⟨(some 49), none, .load none (t 48)⟩,
        ⟨(some 50), none, .call (v (Fn 73)) [(t 49), (v (Fn 74))]⟩,
        ⟨(some 47), none, .mov (t 50)⟩])
      (.cond (t 47)
        (.seq (.ops [⟨(some 2), none, .mov (v (I 5))⟩])
        .ret)
        .skip)))))
  (.seq (.seq (.ops [⟨(some 51), none, .fieldAddr 1 (t 1)⟩,
    ⟨(some 52), none, .load none (t 51)⟩,
    ⟨(some 53), none, .lenSl (t 52)⟩,
    ⟨(some 54), none, .mov (v (I 0))⟩])
  (.block 3
    (.loop
      (.seq (.ops [⟨(some 55), none, .arith .lss (t 54) (t 53)⟩])
      (.seq (.cond (t 55)
        .skip
        (.exit 3))
      (.seq (.block 4
        (.seq (.ops [⟨(some 56), none, .mov (t 54)⟩,
          ⟨(some 57), none, .indexAddr 4 (t 52) (t 54)⟩,
          ⟨(some 58), none, .load (some 4) (t 57)⟩,
          ⟨(some 7), none, .box 65 (v (.agg #[(S []), (I 0), (I 0), (.slice none 0 0)]))⟩,
          ⟨(some 6), none, .mov (t 56)⟩,
          ⟨none, none, .store 4 (t 7) (t 58)⟩])
        (.seq (.seq (.ops [⟨(some 59), none, .fieldAddr 0 (t 7)⟩,
          ⟨(some 60), none, .load none (t 59)⟩,
          ⟨(some 61), none, .call (v (Fn 75)) [(t 60)]⟩,
          ⟨(some 62), none, .un .not (t 61)⟩,
          ⟨(some 63), none, .mov (t 62)⟩,
          ⟨(some 64), some (63, false), .fieldAddr 2 (t 7)⟩,
          ⟨(some 65), some (63, false), .load none (t 64)⟩,
          ⟨(some 66), some (63, false), .arith .lss (t 65) (v (I 0))⟩,
          ⟨(some 67), none, .pick (t 63) (v (.bool true)) (t 66)⟩,
          ⟨(some 68), none, .mov (t 67)⟩,
          ⟨(some 69), some (68, false), .fieldAddr 2 (t 7)⟩,
          ⟨(some 70), some (68, false), .load none (t 69)⟩,
          ⟨(some 71), some (68, false), .fieldAddr 1 (t 7)⟩,
          ⟨(some 72), some (68, false), .load none (t 71)⟩,
          ⟨(some 73), some (68, false), .arith .gtr (t 70) (t 72)⟩,
          ⟨(some 74), none, .pick (t 68) (v (.bool true)) (t 73)⟩,
          ⟨(some 75), none, .mov (t 74)⟩,
          ⟨(some 76), some (75, false), .mov (t 6)⟩,
          ⟨(some 77), some (75, false), .arith .eql (t 76) (v (I 0))⟩,
          ⟨(some 78), some (75, false), .mov (t 77)⟩,
          ⟨(some 79), some (78, true), .fieldAddr 2 (t 7)⟩,
          ⟨(some 80), some (78, true), .load none (t 79)⟩,
          ⟨(some 81), some (78, true), .arith .gtr (t 80) (v (I 0))⟩,
          ⟨(some 82), some (75, false), .pick (t 78) (t 81) (v (.bool false))⟩,
          ⟨(some 83), none, .pick (t 75) (v (.bool true)) (t 82)⟩,
          ⟨(some 84), none, .mov (t 83)⟩,
          ⟨(some 85), some (84, false), .fieldAddr 3 (t 7)⟩,
          ⟨(some 86), some (84, false), .load none (t 85)⟩,
          ⟨(some 87), some (84, false), .lenSl (t 86)⟩,
          ⟨(some 88), some (84, false), .arith .eql (t 87) (v (I 0))⟩,
          ⟨(some 89), none, .pick (t 84) (v (.bool true)) (t 88)⟩])
        (.cond (t 89)
          (.seq (.ops [⟨(some 2), none, .mov (v (I 190))⟩])
          .ret)
          .skip))
        (.seq (.seq (.ops [⟨(some 90), none, .fieldAddr 3 (t 7)⟩,
          ⟨(some 91), none, .load none (t 90)⟩,
          ⟨(some 92), none, .fieldAddr 3 (t 7)⟩,
          ⟨(some 93), none, .load none (t 92)⟩,
          ⟨(some 94), none, .lenSl (t 93)⟩,
          ⟨(some 95), none, .arith .sub (t 94) (v (I 1))⟩,
          ⟨(some 96), none, .indexAddr 7 (t 91) (t 95)⟩,
          ⟨(some 97), none, .fieldAddr 0 (t 96)⟩,
          ⟨(some 98), none, .load none (t 97)⟩,
          ⟨(some 8), none, .mov (t 98)⟩])
        (.seq (.ops [⟨(some 99), none, .mov (t 8)⟩,
          ⟨(some 100), none, .arith .neq (t 99) (v (I 22))⟩,
          ⟨(some 101), none, .mov (t 100)⟩,
          ⟨(some 102), some (101, true), .mov (t 8)⟩,
          ⟨(some 103), some (101, true), .arith .neq (t 102) (v (I 19))⟩,
          ⟨(some 104), none, .pick (t 101) (t 103) (v (.bool false))⟩])
        (.cond (t 104)
          (.seq (.ops [⟨(some 2), none, .mov (v (I 190))⟩])
          .ret)
          .skip)))
        (.seq (.ops [⟨(some 105), none, .fieldAddr 3 (t 7)⟩,
          ⟨(some 106), none, .load none (t 105)⟩,
          ⟨(some 107), none, .func 77 [] [(t 1), (t 7)]⟩,
          ⟨(some 108), none, .call (v (Fn 76)) [(t 106), (t 107)]⟩])
        (.cond (t 108)
          (.seq (.ops [⟨(some 2), none, .mov (v (I 190))⟩])
          .ret)
          .skip))))))
      (.ops [⟨(some 109), none, .arith .add (t 54) (v (I 1))⟩,
        ⟨(some 54), none, .mov (t 109)⟩])))))))
  (.seq (.ops [⟨(some 2), none, .mov (v (I 0))⟩])
  .ret))))))⟩

/- raddle/lower.ruleOf -/
def ir65 : IFunc := ⟨14, [.cell 2 (some 6), .tmp 3],
  (.seq (.ops [⟨(some 2), none, .box 106 (v (.agg #[(S []), (I 0), (I 0), (I 0), (I 0), (S [])]))⟩,
    ⟨(some 3), none, .mov (v (.bool false))⟩])
  (.seq (.seq (.ops [⟨(some 4), none, .mov (t 0)⟩,
    ⟨(some 5), none, .arith .lss (t 4) (v (I 1))⟩,
    ⟨(some 6), none, .mov (t 5)⟩,
    ⟨(some 7), some (6, false), .mov (t 0)⟩,
    ⟨(some 8), some (6, false), .arith .gtr (t 7) (v (I 37))⟩,
    ⟨(some 9), none, .pick (t 6) (v (.bool true)) (t 8)⟩])
  (.cond (t 9)
    (.seq (.ops [⟨(some 10), none, .build [(S []), (I 0), (I 0), (I 0), (I 0), (S [])] []⟩,
      ⟨none, none, .store 6 (t 2) (t 10)⟩,
      ⟨(some 3), none, .mov (v (.bool false))⟩])
    .ret)
    .skip))
  (.seq (.ops [⟨(some 11), none, .call (v (Fn 79)) []⟩,
    ⟨(some 12), none, .mov (t 0)⟩,
    ⟨(some 13), none, .indexArr 38 6 (some 6) (t 11) (t 12)⟩,
    ⟨none, none, .store 6 (t 2) (t 13)⟩,
    ⟨(some 3), none, .mov (v (.bool true))⟩])
  .ret)))⟩

/- (raddle/lower.rule).fields -/
def ir66 : IFunc := ⟨26, [.cell 4 (some 8)],
  (.seq (.ops [⟨(some 2), none, .box 106 (t 0)⟩,
    ⟨(some 3), none, .box 62 (t 1)⟩,
    ⟨(some 4), none, .box 110 (v (.agg #[(I 0), (I 0), (I 0), (I 0), (I 0), (I 0), (I 0), (I 0)]))⟩])
  (.seq (.ops [⟨(some 5), none, .fieldAddr 1 (t 2)⟩,
    ⟨(some 6), none, .load none (t 5)⟩,
    ⟨(some 7), none, .fieldAddr 1 (t 3)⟩,
    ⟨(some 8), none, .load none (t 7)⟩,
    ⟨(some 9), none, .build [(I 0), (I 0)] [(0, 1, (t 6)), (1, 1, (t 8))]⟩,
    ⟨(some 10), none, .fieldAddr 2 (t 2)⟩,
    ⟨(some 11), none, .load none (t 10)⟩,
    ⟨(some 12), none, .fieldAddr 2 (t 3)⟩,
    ⟨(some 13), none, .load none (t 12)⟩,
    ⟨(some 14), none, .build [(I 0), (I 0)] [(0, 1, (t 11)), (1, 1, (t 13))]⟩,
    ⟨(some 15), none, .fieldAddr 3 (t 2)⟩,
    ⟨(some 16), none, .load none (t 15)⟩,
    ⟨(some 17), none, .fieldAddr 3 (t 3)⟩,
    ⟨(some 18), none, .load none (t 17)⟩,
    ⟨(some 19), none, .build [(I 0), (I 0)] [(0, 1, (t 16)), (1, 1, (t 18))]⟩,
    ⟨(some 20), none, .fieldAddr 4 (t 2)⟩,
    ⟨(some 21), none, .load none (t 20)⟩,
    ⟨(some 22), none, .fieldAddr 4 (t 3)⟩,
    ⟨(some 23), none, .load none (t 22)⟩,
    ⟨(some 24), none, .build [(I 0), (I 0)] [(0, 1, (t 21)), (1, 1, (t 23))]⟩,
    ⟨(some 25), none, .build [(I 0), (I 0), (I 0), (I 0), (I 0), (I 0), (I 0), (I 0)] [(0, 2, (t 9)), (2, 2, (t 14)), (4, 2, (t 19)), (6, 2, (t 24))]⟩,
    ⟨none, none, .store 8 (t 4) (t 25)⟩])
  .ret))⟩

/- raddle/flow.ends -/
def ir72 : IFunc := ⟨12, [.tmp 2, .tmp 3],
  (.seq (.ops [⟨(some 1), none, .box 62 (t 0)⟩,
    ⟨(some 2), none, .mov (v (.bool false))⟩,
    ⟨(some 3), none, .mov (v (.bool false))⟩])
  (.seq (.seq (.ops [⟨(some 4), none, .fieldAddr 0 (t 1)⟩,
    ⟨(some 5), none, .load none (t 4)⟩])
  (.block 0
    (.seq (.seq (.ops [⟨(some 7), none, .arith .eql (t 5) (v (I 19))⟩,
      ⟨(some 6), none, .mov (t 7)⟩])
    (.cond (t 6)
      .skip
      (.ops [⟨(some 8), none, .arith .eql (t 5) (v (I 20))⟩,
        ⟨(some 6), none, .mov (t 8)⟩])))
    (.cond (t 6)
      (.seq (.ops [⟨(some 2), none, .mov (v (.bool true))⟩,
        ⟨(some 3), none, .mov (v (.bool true))⟩])
      .ret)
      .skip))))
  (.seq (.ops [⟨(some 9), none, .fieldAddr 0 (t 1)⟩,
    ⟨(some 10), none, .load none (t 9)⟩,
    ⟨(some 11), none, .arith .eql (t 10) (v (I 22))⟩,
    ⟨(some 2), none, .mov (t 11)⟩,
    ⟨(some 3), none, .mov (v (.bool false))⟩])
  .ret)))⟩

/- slices.ContainsFunc[[]raddle/api.Body,raddle/api.Body] -/
def ir73 : IFunc := ⟨9, [.tmp 4],
  (.seq (.ops [⟨(some 4), none, .mov (v (.bool false))⟩])
  (.seq (.ops [⟨(some 5), none, .mov (t 0)⟩,
    ⟨(some 6), none, .mov (t 1)⟩,
    ⟨(some 7), none, .call (v (Fn 86)) [(t 5), (t 6)]⟩,
    ⟨(some 8), none, .arith .geq (t 7) (v (I 0))⟩,
    ⟨(some 4), none, .mov (t 8)⟩])
  .ret))⟩

/- raddle/lower.Check$1 -/
def ir74 : IFunc := ⟨6, [.tmp 2],
  (.seq (.ops [⟨(some 1), none, .box 65 (t 0)⟩,
    ⟨(some 2), none, .mov (v (.bool false))⟩])
  (.seq (.ops [⟨(some 3), none, .fieldAddr 1 (t 1)⟩,
    ⟨(some 4), none, .load none (t 3)⟩,
    ⟨(some 5), none, .arith .gtr (t 4) (v (I 5000))⟩,
    ⟨(some 2), none, .mov (t 5)⟩])
  .ret))⟩

/- raddle/lower.named -/
def ir75 : IFunc := ⟨24, [.tmp 2],
  (.seq (.ops [⟨(some 2), none, .mov (v (.bool false))⟩])
  (.seq (.seq (.ops [⟨(some 3), none, .mov (t 0)⟩,
    ⟨(some 4), none, .lenStr (t 3)⟩,
    ⟨(some 5), none, .arith .lss (t 4) (v (I 1))⟩,
    ⟨(some 6), none, .mov (t 5)⟩,
    ⟨(some 7), some (6, false), .mov (t 0)⟩,
    ⟨(some 8), some (6, false), .lenStr (t 7)⟩,
    ⟨(some 9), some (6, false), .arith .gtr (t 8) (v (I 60))⟩,
    ⟨(some 10), none, .pick (t 6) (v (.bool true)) (t 9)⟩,
    ⟨(some 11), none, .mov (t 10)⟩,
    ⟨(some 12), some (11, false), .mov (t 0)⟩,
    ⟨(some 13), some (11, false), .indexStr (t 12) (v (I 0))⟩,
    ⟨(some 14), some (11, false), .arith .geq (t 13) (v (.int .u8 48))⟩,
    ⟨(some 15), some (11, false), .mov (t 14)⟩,
    ⟨(some 16), some (15, true), .mov (t 0)⟩,
    ⟨(some 17), some (15, true), .indexStr (t 16) (v (I 0))⟩,
    ⟨(some 18), some (15, true), .arith .leq (t 17) (v (.int .u8 57))⟩,
    ⟨(some 19), some (11, false), .pick (t 15) (t 18) (v (.bool false))⟩,
    ⟨(some 20), none, .pick (t 11) (v (.bool true)) (t 19)⟩])
  (.cond (t 20)
    (.seq (.ops [⟨(some 2), none, .mov (v (.bool false))⟩])
    .ret)
    .skip))
  (.seq (.ops [⟨(some 21), none, .mov (t 0)⟩,
    ⟨(some 22), none, .call (v (Fn 87)) [(t 21), (v (Fn 88))]⟩,
    ⟨(some 23), none, .un .not (t 22)⟩,
    ⟨(some 2), none, .mov (t 23)⟩])
  .ret)))⟩

/- slices.ContainsFunc[[]raddle/api.Ins,raddle/api.Ins] -/
def ir76 : IFunc := ⟨9, [.tmp 4],
  (.seq (.ops [⟨(some 4), none, .mov (v (.bool false))⟩])
  (.seq (.ops [⟨(some 5), none, .mov (t 0)⟩,
    ⟨(some 6), none, .mov (t 1)⟩,
    ⟨(some 7), none, .call (v (Fn 89)) [(t 5), (t 6)]⟩,
    ⟨(some 8), none, .arith .geq (t 7) (v (I 0))⟩,
    ⟨(some 4), none, .mov (t 8)⟩])
  .ret))⟩

/- raddle/lower.Check$2 -/
def ir77 : IFunc := ⟨10, [.tmp 4],
  (.seq (.ops [⟨(some 3), none, .box 62 (t 0)⟩,
    ⟨(some 4), none, .mov (v (.bool false))⟩])
  (.seq (.ops [⟨(some 5), none, .load (some 2) (t 1)⟩,
    ⟨(some 6), none, .load (some 4) (t 2)⟩,
    ⟨(some 7), none, .load (some 7) (t 3)⟩,
    ⟨(some 8), none, .call (v (Fn 78)) [(t 5), (t 6), (t 7)]⟩,
    ⟨(some 9), none, .un .not (t 8)⟩,
    ⟨(some 4), none, .mov (t 9)⟩])
  .ret))⟩

/- raddle/lower.right -/
def ir78 : IFunc := ⟨111, [.tmp 6],
  (.seq (.ops [⟨(some 3), none, .box 53 (t 0)⟩,
    ⟨(some 4), none, .box 65 (t 1)⟩,
    ⟨(some 5), none, .box 62 (t 2)⟩,
    ⟨(some 6), none, .mov (v (.bool false))⟩])
  (.seq (.ops [⟨(some 16), none, .fieldAddr 0 (t 5)⟩,
    ⟨(some 17), none, .load none (t 16)⟩,
    ⟨(some 18), none, .call (v (Fn 65)) [(t 17)]⟩,
    ⟨(some 15), none, .mov (t 18)⟩,
    ⟨(some 19), none, .extract (t 15) 0⟩,
    ⟨(some 20), none, .extract (t 15) 1⟩,
    ⟨(some 7), none, .box 106 (v (.agg #[(S []), (I 0), (I 0), (I 0), (I 0), (S [])]))⟩,
    ⟨none, none, .store 6 (t 7) (t 19)⟩,
    ⟨(some 8), none, .mov (t 20)⟩])
  (.seq (.seq (.ops [⟨(some 21), none, .mov (t 8)⟩,
    ⟨(some 22), none, .un .not (t 21)⟩])
  (.cond (t 22)
    (.seq (.ops [⟨(some 6), none, .mov (v (.bool false))⟩])
    .ret)
    .skip))
  (.seq (.seq (.ops [⟨(some 23), none, .load (some 6) (t 7)⟩,
    ⟨(some 24), none, .load (some 7) (t 5)⟩,
    ⟨(some 25), none, .call (v (Fn 66)) [(t 23), (t 24)]⟩,
    ⟨(some 26), none, .mov (v (I 0))⟩])
  (.block 0
    (.loop
      (.seq (.ops [⟨(some 27), none, .arith .lss (t 26) (v (I 4))⟩])
      (.seq (.cond (t 27)
        .skip
        (.exit 0))
      (.seq (.block 1
        (.seq (.ops [⟨(some 28), none, .indexArr 4 2 (some 2) (t 25) (t 26)⟩,
          ⟨(some 10), none, .box 109 (v (.agg #[(I 0), (I 0)]))⟩,
          ⟨none, none, .store 2 (t 10) (t 28)⟩])
        (.seq (.ops [⟨(some 29), none, .load (some 2) (t 3)⟩,
          ⟨(some 30), none, .load (some 4) (t 4)⟩,
          ⟨(some 31), none, .indexAddrArr 2 1 (t 10) (v (I 0))⟩,
          ⟨(some 32), none, .load none (t 31)⟩,
          ⟨(some 33), none, .indexAddrArr 2 1 (t 10) (v (I 1))⟩,
          ⟨(some 34), none, .load none (t 33)⟩,
          ⟨(some 35), none, .call (v (Fn 90)) [(t 29), (t 30), (t 32), (t 34)]⟩,
          ⟨(some 36), none, .un .not (t 35)⟩])
        (.cond (t 36)
          (.seq (.ops [⟨(some 6), none, .mov (v (.bool false))⟩])
          .ret)
          .skip))))
      (.ops [⟨(some 37), none, .arith .add (t 26) (v (I 1))⟩,
        ⟨(some 26), none, .mov (t 37)⟩])))))))
  (.seq (.block 2
    (.seq (.ops [⟨(some 39), none, .fieldAddr 0 (t 5)⟩,
      ⟨(some 40), none, .load none (t 39)⟩,
      ⟨(some 41), none, .arith .eql (t 40) (v (I 36))⟩,
      ⟨(some 38), none, .mov (t 41)⟩])
    (.cond (t 38)
      (.seq (.ops [⟨(some 42), none, .fieldAddr 5 (t 5)⟩,
        ⟨(some 43), none, .load none (t 42)⟩,
        ⟨(some 44), none, .lenStr (t 43)⟩,
        ⟨(some 45), none, .mov (v (I 0))⟩])
      (.block 3
        (.loop
          (.seq (.ops [⟨(some 46), none, .arith .lss (t 45) (t 44)⟩])
          (.seq (.cond (t 46)
            .skip
            (.exit 3))
          (.seq (.block 4
            (.seq (.ops [⟨(some 47), none, .mov (t 45)⟩,
              ⟨(some 11), none, .mov (t 47)⟩])
            (.seq (.ops [⟨(some 48), none, .fieldAddr 5 (t 5)⟩,
              ⟨(some 49), none, .load none (t 48)⟩,
              ⟨(some 50), none, .mov (t 11)⟩,
              ⟨(some 51), none, .indexStr (t 49) (t 50)⟩,
              ⟨(some 12), none, .mov (t 51)⟩])
            (.seq (.ops [⟨(some 52), none, .mov (t 12)⟩,
              ⟨(some 53), none, .arith .neq (t 52) (v (.int .u8 0))⟩,
              ⟨(some 54), none, .mov (t 53)⟩,
              ⟨(some 55), some (54, true), .mov (t 12)⟩,
              ⟨(some 56), some (54, true), .arith .lss (t 55) (v (.int .u8 32))⟩,
              ⟨(some 57), some (54, true), .mov (t 56)⟩,
              ⟨(some 58), some (57, false), .mov (t 12)⟩,
              ⟨(some 59), some (57, false), .arith .gtr (t 58) (v (.int .u8 126))⟩,
              ⟨(some 60), some (54, true), .pick (t 57) (v (.bool true)) (t 59)⟩,
              ⟨(some 61), none, .pick (t 54) (t 60) (v (.bool false))⟩])
            (.cond (t 61)
              (.seq (.ops [⟨(some 6), none, .mov (v (.bool false))⟩])
              .ret)
              .skip)))))
          (.ops [⟨(some 62), none, .arith .add (t 45) (v (I 1))⟩,
            ⟨(some 45), none, .mov (t 62)⟩])))))))
      (.seq (.draw [⟨(some 64), none, .fieldAddr 5 (t 7)⟩,
        ⟨(some 65), none, .load none (t 64)⟩,
        ⟨(some 66), none, .arith .eql (t 65) (v (S []))⟩,
        ⟨(some 67), none, .mov (t 66)⟩,
        ⟨(some 68), some (67, true), .fieldAddr 5 (t 5)⟩,
        ⟨(some 69), some (67, true), .load none (t 68)⟩,
        ⟨(some 70), some (67, true), .arith .neq (t 69) (v (S []))⟩,
        ⟨(some 71), none, .pick (t 67) (t 70) (v (.bool false))⟩,
        ⟨(some 72), none, .mov (t 71)⟩,
        ⟨(some 73), some (72, false), .fieldAddr 5 (t 7)⟩,
        ⟨(some 74), some (72, false), .load none (t 73)⟩,
        ⟨(some 75), some (72, false), .arith .neq (t 74) (v (S []))⟩,
        ⟨(some 76), some (72, false), .mov (t 75)⟩,
        ⟨(some 77), some (76, true), .fieldAddr 5 (t 7)⟩,
        ⟨(some 78), some (76, true), .load none (t 77)⟩,
        ⟨(some 79), some (76, true), .call (v (Fn 92)) [(t 78)]⟩,
        ⟨(some 80), some (76, true), .fieldAddr 5 (t 5)⟩,
        ⟨(some 81), some (76, true), .load none (t 80)⟩]
        [⟨(some 82), some (76, true), .call (v (Fn 91)) [(t 79), (t 81)]⟩,
        ⟨(some 83), some (76, true), .un .not (t 82)⟩,
        ⟨(some 84), some (72, false), .pick (t 76) (t 83) (v (.bool false))⟩,
        ⟨(some 85), none, .pick (t 72) (v (.bool true)) (t 84)⟩,
        ⟨(some 63), none, .mov (t 85)⟩])
      (.cond (t 63)
        (.seq (.ops [⟨(some 6), none, .mov (v (.bool false))⟩])
        .ret)
        .skip)))))
  (.seq (.ops [⟨(some 87), none, .load (some 2) (t 3)⟩,
    ⟨(some 88), none, .load (some 7) (t 5)⟩,
    ⟨(some 89), none, .call (v (Fn 93)) [(t 87), (t 88)]⟩,
    ⟨(some 86), none, .mov (t 89)⟩,
    ⟨(some 90), none, .extract (t 86) 0⟩,
    ⟨(some 91), none, .extract (t 86) 1⟩,
    ⟨(some 13), none, .mov (t 90)⟩,
    ⟨(some 14), none, .mov (t 91)⟩])
  (.seq (.ops [⟨(some 92), none, .fieldAddr 6 (t 5)⟩,
    ⟨(some 93), none, .load none (t 92)⟩,
    ⟨(some 94), none, .lenSl (t 93)⟩,
    ⟨(some 95), none, .mov (t 13)⟩,
    ⟨(some 96), none, .arith .geq (t 94) (t 95)⟩,
    ⟨(some 97), none, .mov (t 96)⟩,
    ⟨(some 98), some (97, true), .fieldAddr 6 (t 5)⟩,
    ⟨(some 99), some (97, true), .load none (t 98)⟩,
    ⟨(some 100), some (97, true), .lenSl (t 99)⟩,
    ⟨(some 101), some (97, true), .mov (t 14)⟩,
    ⟨(some 102), some (97, true), .arith .leq (t 100) (t 101)⟩,
    ⟨(some 103), none, .pick (t 97) (t 102) (v (.bool false))⟩,
    ⟨(some 104), none, .mov (t 103)⟩,
    ⟨(some 105), some (104, true), .fieldAddr 6 (t 5)⟩,
    ⟨(some 106), some (104, true), .load none (t 105)⟩,
    ⟨(some 107), some (104, true), .func 95 [] [(t 3), (t 4)]⟩,
    ⟨(some 108), some (104, true), .call (v (Fn 94)) [(t 106), (t 107)]⟩,
    ⟨(some 109), some (104, true), .un .not (t 108)⟩,
    ⟨(some 110), none, .pick (t 104) (t 109) (v (.bool false))⟩,
    ⟨(some 6), none, .mov (t 110)⟩])
  .ret)))))))⟩

/- raddle/lower.rules -/
def ir79 : IFunc := ⟨39, [.cell 0 (some 228)],
  (.seq (.ops [⟨(some 0), none, .box 123 (v (.agg #[(S []), (I 0), (I 0), (I 0), (I 0), (S []), (S []), (I 0), (I 0), (I 0), (I 0), (S []), (S []), (I 0), (I 0), (I 0), (I 0), (S []), (S []), (I 0), (I 0), (I 0), (I 0), (S []), (S []), (I 0), (I 0), (I 0), (I 0), (S []), (S []), (I 0), (I 0), (I 0), (I 0), (S []), (S []), (I 0), (I 0), (I 0), (I 0), (S []), (S []), (I 0), (I 0), (I 0), (I 0), (S []), (S []), (I 0), (I 0), (I 0), (I 0), (S []), (S []), (I 0), (I 0), (I 0), (I 0), (S []), (S []), (I 0), (I 0), (I 0), (I 0), (S []), (S []), (I 0), (I 0), (I 0), (I 0), (S []), (S []), (I 0), (I 0), (I 0), (I 0), (S []), (S []), (I 0), (I 0), (I 0), (I 0), (S []), (S []), (I 0), (I 0), (I 0), (I 0), (S []), (S []), (I 0), (I 0), (I 0), (I 0), (S []), (S []), (I 0), (I 0), (I 0), (I 0), (S []), (S []), (I 0), (I 0), (I 0), (I 0), (S []), (S []), (I 0), (I 0), (I 0), (I 0), (S []), (S []), (I 0), (I 0), (I 0), (I 0), (S []), (S []), (I 0), (I 0), (I 0), (I 0), (S []), (S []), (I 0), (I 0), (I 0), (I 0), (S []), (S []), (I 0), (I 0), (I 0), (I 0), (S []), (S []), (I 0), (I 0), (I 0), (I 0), (S []), (S []), (I 0), (I 0), (I 0), (I 0), (S []), (S []), (I 0), (I 0), (I 0), (I 0), (S []), (S []), (I 0), (I 0), (I 0), (I 0), (S []), (S []), (I 0), (I 0), (I 0), (I 0), (S []), (S []), (I 0), (I 0), (I 0), (I 0), (S []), (S []), (I 0), (I 0), (I 0), (I 0), (S []), (S []), (I 0), (I 0), (I 0), (I 0), (S []), (S []), (I 0), (I 0), (I 0), (I 0), (S []), (S []), (I 0), (I 0), (I 0), (I 0), (S []), (S []), (I 0), (I 0), (I 0), (I 0), (S []), (S []), (I 0), (I 0), (I 0), (I 0), (S []), (S []), (I 0), (I 0), (I 0), (I 0), (S []), (S []), (I 0), (I 0), (I 0), (I 0), (S []), (S []), (I 0), (I 0), (I 0), (I 0), (S [])]))⟩])
  (.seq (.ops [⟨(some 1), none, .build [(S []), (I 0), (I 0), (I 0), (I 0), (S [])] [(0, 1, (v (S [115, 101, 116]))), (1, 1, (v (I 3))), (2, 1, (v (I 5))), (3, 1, (v (I 0))), (4, 1, (v (I 0))), (5, 1, (v (S [])))]⟩,
    ⟨(some 2), none, .build [(S []), (I 0), (I 0), (I 0), (I 0), (S [])] [(0, 1, (v (S [99, 111, 112, 121]))), (1, 1, (v (I 3))), (2, 1, (v (I 1))), (3, 1, (v (I 0))), (4, 1, (v (I 0))), (5, 1, (v (S [])))]⟩,
    ⟨(some 3), none, .build [(S []), (I 0), (I 0), (I 0), (I 0), (S [])] [(0, 1, (v (S [117, 110, 97, 114, 121]))), (1, 1, (v (I 3))), (2, 1, (v (I 1))), (3, 1, (v (I 0))), (4, 1, (v (I 0))), (5, 1, (v (S [45, 32, 33])))]⟩,
    ⟨(some 4), none, .build [(S []), (I 0), (I 0), (I 0), (I 0), (S [])] [(0, 1, (v (S [98, 105, 110, 97, 114, 121]))), (1, 1, (v (I 3))), (2, 1, (v (I 1))), (3, 1, (v (I 1))), (4, 1, (v (I 0))), (5, 1, (v (S [43, 32, 45, 32, 42, 32, 47, 32, 37, 32, 61, 61, 32, 33, 61, 32, 60, 32, 60, 61, 32, 62, 32, 62, 61, 32, 109, 105, 110, 32, 109, 97, 120, 32, 38, 38, 32, 124, 124])))]⟩,
    ⟨(some 5), none, .build [(S []), (I 0), (I 0), (I 0), (I 0), (S [])] [(0, 1, (v (S [103, 101, 116]))), (1, 1, (v (I 3))), (2, 1, (v (I 6))), (3, 1, (v (I 0))), (4, 1, (v (I 0))), (5, 1, (v (S [])))]⟩,
    ⟨(some 6), none, .build [(S []), (I 0), (I 0), (I 0), (I 0), (S [])] [(0, 1, (v (S [112, 117, 116]))), (1, 1, (v (I 6))), (2, 1, (v (I 1))), (3, 1, (v (I 0))), (4, 1, (v (I 0))), (5, 1, (v (S [])))]⟩,
    ⟨(some 7), none, .build [(S []), (I 0), (I 0), (I 0), (I 0), (S [])] [(0, 1, (v (S [114, 97, 110, 103, 101]))), (1, 1, (v (I 3))), (2, 1, (v (I 1))), (3, 1, (v (I 1))), (4, 1, (v (I 0))), (5, 1, (v (S [])))]⟩,
    ⟨(some 8), none, .build [(S []), (I 0), (I 0), (I 0), (I 0), (S [])] [(0, 1, (v (S [98, 121]))), (1, 1, (v (I 3))), (2, 1, (v (I 1))), (3, 1, (v (I 1))), (4, 1, (v (I 0))), (5, 1, (v (S [])))]⟩,
    ⟨(some 9), none, .build [(S []), (I 0), (I 0), (I 0), (I 0), (S [])] [(0, 1, (v (S [99, 111, 117, 110, 116]))), (1, 1, (v (I 3))), (2, 1, (v (I 1))), (3, 1, (v (I 1))), (4, 1, (v (I 0))), (5, 1, (v (S [])))]⟩,
    ⟨(some 10), none, .build [(S []), (I 0), (I 0), (I 0), (I 0), (S [])] [(0, 1, (v (S [100, 111, 109, 97, 105, 110]))), (1, 1, (v (I 3))), (2, 1, (v (I 0))), (3, 1, (v (I 0))), (4, 1, (v (I 0))), (5, 1, (v (S [])))]⟩,
    ⟨(some 11), none, .build [(S []), (I 0), (I 0), (I 0), (I 0), (S [])] [(0, 1, (v (S [109, 97, 112]))), (1, 1, (v (I 3))), (2, 1, (v (I 1))), (3, 1, (v (I 10))), (4, 1, (v (I 2))), (5, 1, (v (S [])))]⟩,
    ⟨(some 12), none, .build [(S []), (I 0), (I 0), (I 0), (I 0), (S [])] [(0, 1, (v (S [97, 114, 114, 97, 121]))), (1, 1, (v (I 3))), (2, 1, (v (I 1))), (3, 1, (v (I 0))), (4, 1, (v (I 0))), (5, 1, (v (S [])))]⟩,
    ⟨(some 13), none, .build [(S []), (I 0), (I 0), (I 0), (I 0), (S [])] [(0, 1, (v (S [99, 101, 108, 108]))), (1, 1, (v (I 3))), (2, 1, (v (I 0))), (3, 1, (v (I 0))), (4, 1, (v (I 0))), (5, 1, (v (S [])))]⟩,
    ⟨(some 14), none, .build [(S []), (I 0), (I 0), (I 0), (I 0), (S [])] [(0, 1, (v (S [97, 116, 111, 109, 105, 99]))), (1, 1, (v (I 3))), (2, 1, (v (I 0))), (3, 1, (v (I 0))), (4, 1, (v (I 0))), (5, 1, (v (S [])))]⟩,
    ⟨(some 15), none, .build [(S []), (I 0), (I 0), (I 0), (I 0), (S [])] [(0, 1, (v (S [102, 105, 101, 108, 100]))), (1, 1, (v (I 3))), (2, 1, (v (I 1))), (3, 1, (v (I 0))), (4, 1, (v (I 0))), (5, 1, (v (S [115, 105, 122, 101, 32, 108, 111, 119, 32, 104, 105, 103, 104, 32, 115, 116, 114, 105, 100, 101, 32, 100, 111, 109, 97, 105, 110])))]⟩,
    ⟨(some 16), none, .build [(S []), (I 0), (I 0), (I 0), (I 0), (S [])] [(0, 1, (v (S [110, 116, 104]))), (1, 1, (v (I 3))), (2, 1, (v (I 1))), (3, 1, (v (I 9))), (4, 1, (v (I 1))), (5, 1, (v (S [])))]⟩,
    ⟨(some 17), none, .build [(S []), (I 0), (I 0), (I 0), (I 0), (S [])] [(0, 1, (v (S [108, 111, 97, 100]))), (1, 1, (v (I 3))), (2, 1, (v (I 1))), (3, 1, (v (I 0))), (4, 1, (v (I 0))), (5, 1, (v (S [])))]⟩,
    ⟨(some 18), none, .build [(S []), (I 0), (I 0), (I 0), (I 0), (S [])] [(0, 1, (v (S [115, 116, 111, 114, 101]))), (1, 1, (v (I 1))), (2, 1, (v (I 1))), (3, 1, (v (I 0))), (4, 1, (v (I 0))), (5, 1, (v (S [])))]⟩,
    ⟨(some 19), none, .build [(S []), (I 0), (I 0), (I 0), (I 0), (S [])] [(0, 1, (v (S [106, 117, 109, 112]))), (1, 1, (v (I 0))), (2, 1, (v (I 0))), (3, 1, (v (I 7))), (4, 1, (v (I 0))), (5, 1, (v (S [])))]⟩,
    ⟨(some 20), none, .build [(S []), (I 0), (I 0), (I 0), (I 0), (S [])] [(0, 1, (v (S [105, 102]))), (1, 1, (v (I 1))), (2, 1, (v (I 0))), (3, 1, (v (I 7))), (4, 1, (v (I 0))), (5, 1, (v (S [])))]⟩,
    ⟨(some 21), none, .build [(S []), (I 0), (I 0), (I 0), (I 0), (S [])] [(0, 1, (v (S [99, 97, 108, 108]))), (1, 1, (v (I 4))), (2, 1, (v (I 8))), (3, 1, (v (I 0))), (4, 1, (v (I 0))), (5, 1, (v (S [])))]⟩,
    ⟨(some 22), none, .build [(S []), (I 0), (I 0), (I 0), (I 0), (S [])] [(0, 1, (v (S [114, 101, 116, 117, 114, 110]))), (1, 1, (v (I 2))), (2, 1, (v (I 0))), (3, 1, (v (I 0))), (4, 1, (v (I 0))), (5, 1, (v (S [])))]⟩,
    ⟨(some 23), none, .build [(S []), (I 0), (I 0), (I 0), (I 0), (S [])] [(0, 1, (v (S [104, 101, 114, 101]))), (1, 1, (v (I 3))), (2, 1, (v (I 0))), (3, 1, (v (I 0))), (4, 1, (v (I 0))), (5, 1, (v (S [])))]⟩,
    ⟨(some 24), none, .build [(S []), (I 0), (I 0), (I 0), (I 0), (S [])] [(0, 1, (v (S [108, 111, 99, 97, 108, 101, 115]))), (1, 1, (v (I 3))), (2, 1, (v (I 0))), (3, 1, (v (I 0))), (4, 1, (v (I 0))), (5, 1, (v (S [])))]⟩,
    ⟨(some 25), none, .build [(S []), (I 0), (I 0), (I 0), (I 0), (S [])] [(0, 1, (v (S [103, 111]))), (1, 1, (v (I 1))), (2, 1, (v (I 0))), (3, 1, (v (I 0))), (4, 1, (v (I 0))), (5, 1, (v (S [])))]⟩,
    ⟨(some 26), none, .build [(S []), (I 0), (I 0), (I 0), (I 0), (S [])] [(0, 1, (v (S [99, 111, 117, 110, 116, 101, 114]))), (1, 1, (v (I 3))), (2, 1, (v (I 0))), (3, 1, (v (I 0))), (4, 1, (v (I 0))), (5, 1, (v (S [])))]⟩,
    ⟨(some 27), none, .build [(S []), (I 0), (I 0), (I 0), (I 0), (S [])] [(0, 1, (v (S [115, 112, 97, 119, 110]))), (1, 1, (v (I 2))), (2, 1, (v (I 8))), (3, 1, (v (I 0))), (4, 1, (v (I 0))), (5, 1, (v (S [])))]⟩,
    ⟨(some 28), none, .build [(S []), (I 0), (I 0), (I 0), (I 0), (S [])] [(0, 1, (v (S [119, 97, 105, 116]))), (1, 1, (v (I 1))), (2, 1, (v (I 0))), (3, 1, (v (I 0))), (4, 1, (v (I 0))), (5, 1, (v (S [])))]⟩,
    ⟨(some 29), none, .build [(S []), (I 0), (I 0), (I 0), (I 0), (S [])] [(0, 1, (v (S [115, 99, 111, 112, 101]))), (1, 1, (v (I 3))), (2, 1, (v (I 0))), (3, 1, (v (I 0))), (4, 1, (v (I 0))), (5, 1, (v (S [])))]⟩,
    ⟨(some 30), none, .build [(S []), (I 0), (I 0), (I 0), (I 0), (S [])] [(0, 1, (v (S [117, 110, 115, 99, 111, 112, 101]))), (1, 1, (v (I 0))), (2, 1, (v (I 0))), (3, 1, (v (I 0))), (4, 1, (v (I 0))), (5, 1, (v (S [])))]⟩,
    ⟨(some 31), none, .build [(S []), (I 0), (I 0), (I 0), (I 0), (S [])] [(0, 1, (v (S [112, 105, 101, 99, 101, 115]))), (1, 1, (v (I 3))), (2, 1, (v (I 1))), (3, 1, (v (I 0))), (4, 1, (v (I 0))), (5, 1, (v (S [])))]⟩,
    ⟨(some 32), none, .build [(S []), (I 0), (I 0), (I 0), (I 0), (S [])] [(0, 1, (v (S [112, 105, 101, 99, 101]))), (1, 1, (v (I 3))), (2, 1, (v (I 1))), (3, 1, (v (I 9))), (4, 1, (v (I 1))), (5, 1, (v (S [])))]⟩,
    ⟨(some 33), none, .build [(S []), (I 0), (I 0), (I 0), (I 0), (S [])] [(0, 1, (v (S [105, 110, 112, 105, 101, 99, 101]))), (1, 1, (v (I 3))), (2, 1, (v (I 1))), (3, 1, (v (I 9))), (4, 1, (v (I 1))), (5, 1, (v (S [])))]⟩,
    ⟨(some 34), none, .build [(S []), (I 0), (I 0), (I 0), (I 0), (S [])] [(0, 1, (v (S [111, 110, 99, 101, 108, 108]))), (1, 1, (v (I 4))), (2, 1, (v (I 1))), (3, 1, (v (I 2))), (4, 1, (v (I 0))), (5, 1, (v (S [114, 101, 97, 100, 70, 69, 32, 114, 101, 97, 100, 70, 70, 32, 114, 101, 97, 100, 88, 88, 32, 119, 114, 105, 116, 101, 69, 70, 32, 119, 114, 105, 116, 101, 70, 70, 32, 119, 114, 105, 116, 101, 88, 70, 32, 114, 101, 115, 101, 116, 32, 105, 115, 70, 117, 108, 108])))]⟩,
    ⟨(some 35), none, .build [(S []), (I 0), (I 0), (I 0), (I 0), (S [])] [(0, 1, (v (S [111, 110, 97, 116, 111, 109]))), (1, 1, (v (I 4))), (2, 1, (v (I 1))), (3, 1, (v (I 0))), (4, 1, (v (I 0))), (5, 1, (v (S [114, 101, 97, 100, 32, 119, 114, 105, 116, 101, 32, 97, 100, 100, 32, 102, 101, 116, 99, 104, 65, 100, 100, 32, 101, 120, 99, 104, 97, 110, 103, 101, 32, 99, 111, 109, 112, 97, 114, 101, 65, 110, 100, 83, 119, 97, 112])))]⟩,
    ⟨(some 36), none, .build [(S []), (I 0), (I 0), (I 0), (I 0), (S [])] [(0, 1, (v (S [119, 114, 105, 116, 101]))), (1, 1, (v (I 0))), (2, 1, (v (I 0))), (3, 1, (v (I 0))), (4, 1, (v (I 0))), (5, 1, (v (S [])))]⟩,
    ⟨(some 37), none, .build [(S []), (I 0), (I 0), (I 0), (I 0), (S [])] [(0, 1, (v (S [97, 115, 115, 101, 114, 116]))), (1, 1, (v (I 1))), (2, 1, (v (I 0))), (3, 1, (v (I 0))), (4, 1, (v (I 0))), (5, 1, (v (S [])))]⟩,
    ⟨(some 38), none, .build [(S []), (I 0), (I 0), (I 0), (I 0), (S []), (S []), (I 0), (I 0), (I 0), (I 0), (S []), (S []), (I 0), (I 0), (I 0), (I 0), (S []), (S []), (I 0), (I 0), (I 0), (I 0), (S []), (S []), (I 0), (I 0), (I 0), (I 0), (S []), (S []), (I 0), (I 0), (I 0), (I 0), (S []), (S []), (I 0), (I 0), (I 0), (I 0), (S []), (S []), (I 0), (I 0), (I 0), (I 0), (S []), (S []), (I 0), (I 0), (I 0), (I 0), (S []), (S []), (I 0), (I 0), (I 0), (I 0), (S []), (S []), (I 0), (I 0), (I 0), (I 0), (S []), (S []), (I 0), (I 0), (I 0), (I 0), (S []), (S []), (I 0), (I 0), (I 0), (I 0), (S []), (S []), (I 0), (I 0), (I 0), (I 0), (S []), (S []), (I 0), (I 0), (I 0), (I 0), (S []), (S []), (I 0), (I 0), (I 0), (I 0), (S []), (S []), (I 0), (I 0), (I 0), (I 0), (S []), (S []), (I 0), (I 0), (I 0), (I 0), (S []), (S []), (I 0), (I 0), (I 0), (I 0), (S []), (S []), (I 0), (I 0), (I 0), (I 0), (S []), (S []), (I 0), (I 0), (I 0), (I 0), (S []), (S []), (I 0), (I 0), (I 0), (I 0), (S []), (S []), (I 0), (I 0), (I 0), (I 0), (S []), (S []), (I 0), (I 0), (I 0), (I 0), (S []), (S []), (I 0), (I 0), (I 0), (I 0), (S []), (S []), (I 0), (I 0), (I 0), (I 0), (S []), (S []), (I 0), (I 0), (I 0), (I 0), (S []), (S []), (I 0), (I 0), (I 0), (I 0), (S []), (S []), (I 0), (I 0), (I 0), (I 0), (S []), (S []), (I 0), (I 0), (I 0), (I 0), (S []), (S []), (I 0), (I 0), (I 0), (I 0), (S []), (S []), (I 0), (I 0), (I 0), (I 0), (S []), (S []), (I 0), (I 0), (I 0), (I 0), (S []), (S []), (I 0), (I 0), (I 0), (I 0), (S []), (S []), (I 0), (I 0), (I 0), (I 0), (S []), (S []), (I 0), (I 0), (I 0), (I 0), (S []), (S []), (I 0), (I 0), (I 0), (I 0), (S []), (S []), (I 0), (I 0), (I 0), (I 0), (S [])] [(6, 6, (t 1)), (12, 6, (t 2)), (18, 6, (t 3)), (24, 6, (t 4)), (30, 6, (t 5)), (36, 6, (t 6)), (42, 6, (t 7)), (48, 6, (t 8)), (54, 6, (t 9)), (60, 6, (t 10)), (66, 6, (t 11)), (72, 6, (t 12)), (78, 6, (t 13)), (84, 6, (t 14)), (90, 6, (t 15)), (96, 6, (t 16)), (102, 6, (t 17)), (108, 6, (t 18)), (114, 6, (t 19)), (120, 6, (t 20)), (126, 6, (t 21)), (132, 6, (t 22)), (138, 6, (t 23)), (144, 6, (t 24)), (150, 6, (t 25)), (156, 6, (t 26)), (162, 6, (t 27)), (168, 6, (t 28)), (174, 6, (t 29)), (180, 6, (t 30)), (186, 6, (t 31)), (192, 6, (t 32)), (198, 6, (t 33)), (204, 6, (t 34)), (210, 6, (t 35)), (216, 6, (t 36)), (222, 6, (t 37))]⟩,
    ⟨none, none, .store 228 (t 0) (t 38)⟩])
  .ret))⟩

/- slices.IndexFunc[[]int,int] -/
def ir80 : IFunc := ⟨19, [.tmp 4],
  (.seq (.ops [⟨(some 4), none, .mov (v (I 0))⟩])
  (.seq (.seq (.ops [⟨(some 6), none, .mov (t 0)⟩,
    ⟨(some 7), none, .lenSl (t 6)⟩,
    ⟨(some 8), none, .mov (v (I 0))⟩])
  (.block 0
    (.loop
      (.seq (.ops [⟨(some 9), none, .arith .lss (t 8) (t 7)⟩])
      (.seq (.cond (t 9)
        .skip
        (.exit 0))
      (.seq (.block 1
        (.seq (.ops [⟨(some 10), none, .mov (t 8)⟩,
          ⟨(some 5), none, .mov (t 10)⟩])
        (.seq (.ops [⟨(some 11), none, .mov (t 1)⟩,
          ⟨(some 12), none, .mov (t 0)⟩,
          ⟨(some 13), none, .mov (t 5)⟩,
          ⟨(some 14), none, .indexAddr 1 (t 12) (t 13)⟩,
          ⟨(some 15), none, .load none (t 14)⟩,
          ⟨(some 16), none, .call (t 11) [(t 15)]⟩])
        (.cond (t 16)
          (.seq (.ops [⟨(some 17), none, .mov (t 5)⟩,
            ⟨(some 4), none, .mov (t 17)⟩])
          .ret)
          .skip))))
      (.ops [⟨(some 18), none, .arith .add (t 8) (v (I 1))⟩,
        ⟨(some 8), none, .mov (t 18)⟩])))))))
  (.seq (.ops [⟨(some 4), none, .mov (v (I (-1)))⟩])
  .ret)))⟩

/- slices.IndexFunc[[]raddle/api.Body,raddle/api.Body] -/
def ir86 : IFunc := ⟨19, [.tmp 4],
  (.seq (.ops [⟨(some 4), none, .mov (v (I 0))⟩])
  (.seq (.seq (.ops [⟨(some 6), none, .mov (t 0)⟩,
    ⟨(some 7), none, .lenSl (t 6)⟩,
    ⟨(some 8), none, .mov (v (I 0))⟩])
  (.block 0
    (.loop
      (.seq (.ops [⟨(some 9), none, .arith .lss (t 8) (t 7)⟩])
      (.seq (.cond (t 9)
        .skip
        (.exit 0))
      (.seq (.block 1
        (.seq (.ops [⟨(some 10), none, .mov (t 8)⟩,
          ⟨(some 5), none, .mov (t 10)⟩])
        (.seq (.ops [⟨(some 11), none, .mov (t 1)⟩,
          ⟨(some 12), none, .mov (t 0)⟩,
          ⟨(some 13), none, .mov (t 5)⟩,
          ⟨(some 14), none, .indexAddr 4 (t 12) (t 13)⟩,
          ⟨(some 15), none, .load (some 4) (t 14)⟩,
          ⟨(some 16), none, .call (t 11) [(t 15)]⟩])
        (.cond (t 16)
          (.seq (.ops [⟨(some 17), none, .mov (t 5)⟩,
            ⟨(some 4), none, .mov (t 17)⟩])
          .ret)
          .skip))))
      (.ops [⟨(some 18), none, .arith .add (t 8) (v (I 1))⟩,
        ⟨(some 8), none, .mov (t 18)⟩])))))))
  (.seq (.ops [⟨(some 4), none, .mov (v (I (-1)))⟩])
  .ret)))⟩

/- strings.ContainsFunc -/
def ir87 : IFunc := ⟨9, [.tmp 4],
  (.seq (.ops [⟨(some 4), none, .mov (v (.bool false))⟩])
  (.seq (.ops [⟨(some 5), none, .mov (t 0)⟩,
    ⟨(some 6), none, .mov (t 1)⟩,
    ⟨(some 7), none, .call (v (Fn 100)) [(t 5), (t 6)]⟩,
    ⟨(some 8), none, .arith .geq (t 7) (v (I 0))⟩,
    ⟨(some 4), none, .mov (t 8)⟩])
  .ret))⟩

/- raddle/lower.named$1 -/
def ir88 : IFunc := ⟨29, [.tmp 2],
  (.seq (.ops [⟨(some 2), none, .mov (v (.bool false))⟩])
  (.seq (.ops [⟨(some 3), none, .mov (t 0)⟩,
    ⟨(some 4), none, .arith .neq (t 3) (v (.int .i32 95))⟩,
    ⟨(some 5), none, .mov (t 4)⟩,
    ⟨(some 6), some (5, true), .mov (t 0)⟩,
    ⟨(some 7), some (5, true), .arith .lss (t 6) (v (.int .i32 48))⟩,
    ⟨(some 8), some (5, true), .mov (t 7)⟩,
    ⟨(some 9), some (8, false), .mov (t 0)⟩,
    ⟨(some 10), some (8, false), .arith .gtr (t 9) (v (.int .i32 57))⟩,
    ⟨(some 11), some (5, true), .pick (t 8) (v (.bool true)) (t 10)⟩,
    ⟨(some 12), none, .pick (t 5) (t 11) (v (.bool false))⟩,
    ⟨(some 13), none, .mov (t 12)⟩,
    ⟨(some 14), some (13, true), .mov (t 0)⟩,
    ⟨(some 15), some (13, true), .arith .lss (t 14) (v (.int .i32 97))⟩,
    ⟨(some 16), some (13, true), .mov (t 15)⟩,
    ⟨(some 17), some (16, false), .mov (t 0)⟩,
    ⟨(some 18), some (16, false), .arith .gtr (t 17) (v (.int .i32 122))⟩,
    ⟨(some 19), some (13, true), .pick (t 16) (v (.bool true)) (t 18)⟩,
    ⟨(some 20), none, .pick (t 13) (t 19) (v (.bool false))⟩,
    ⟨(some 21), none, .mov (t 20)⟩,
    ⟨(some 22), some (21, true), .mov (t 0)⟩,
    ⟨(some 23), some (21, true), .arith .lss (t 22) (v (.int .i32 65))⟩,
    ⟨(some 24), some (21, true), .mov (t 23)⟩,
    ⟨(some 25), some (24, false), .mov (t 0)⟩,
    ⟨(some 26), some (24, false), .arith .gtr (t 25) (v (.int .i32 90))⟩,
    ⟨(some 27), some (21, true), .pick (t 24) (v (.bool true)) (t 26)⟩,
    ⟨(some 28), none, .pick (t 21) (t 27) (v (.bool false))⟩,
    ⟨(some 2), none, .mov (t 28)⟩])
  .ret))⟩

/- slices.IndexFunc[[]raddle/api.Ins,raddle/api.Ins] -/
def ir89 : IFunc := ⟨19, [.tmp 4],
  (.seq (.ops [⟨(some 4), none, .mov (v (I 0))⟩])
  (.seq (.seq (.ops [⟨(some 6), none, .mov (t 0)⟩,
    ⟨(some 7), none, .lenSl (t 6)⟩,
    ⟨(some 8), none, .mov (v (I 0))⟩])
  (.block 0
    (.loop
      (.seq (.ops [⟨(some 9), none, .arith .lss (t 8) (t 7)⟩])
      (.seq (.cond (t 9)
        .skip
        (.exit 0))
      (.seq (.block 1
        (.seq (.ops [⟨(some 10), none, .mov (t 8)⟩,
          ⟨(some 5), none, .mov (t 10)⟩])
        (.seq (.ops [⟨(some 11), none, .mov (t 1)⟩,
          ⟨(some 12), none, .mov (t 0)⟩,
          ⟨(some 13), none, .mov (t 5)⟩,
          ⟨(some 14), none, .indexAddr 7 (t 12) (t 13)⟩,
          ⟨(some 15), none, .load (some 7) (t 14)⟩,
          ⟨(some 16), none, .call (t 11) [(t 15)]⟩])
        (.cond (t 16)
          (.seq (.ops [⟨(some 17), none, .mov (t 5)⟩,
            ⟨(some 4), none, .mov (t 17)⟩])
          .ret)
          .skip))))
      (.ops [⟨(some 18), none, .arith .add (t 8) (v (I 1))⟩,
        ⟨(some 8), none, .mov (t 18)⟩])))))))
  (.seq (.ops [⟨(some 4), none, .mov (v (I (-1)))⟩])
  .ret)))⟩

/- raddle/lower.field -/
def ir90 : IFunc := ⟨84, [.tmp 8],
  (.seq (.ops [⟨(some 4), none, .box 53 (t 0)⟩,
    ⟨(some 5), none, .box 65 (t 1)⟩,
    ⟨(some 8), none, .mov (v (.bool false))⟩])
  (.seq (.seq (.ops [⟨(some 9), none, .mov (t 2)⟩])
  (.block 0
    (.seq (.ops [⟨(some 11), none, .arith .eql (t 9) (v (I 0))⟩,
      ⟨(some 10), none, .mov (t 11)⟩])
    (.cond (t 10)
      (.seq (.ops [⟨(some 12), none, .mov (t 3)⟩,
        ⟨(some 13), none, .arith .eql (t 12) (v (I 0))⟩,
        ⟨(some 8), none, .mov (t 13)⟩])
      .ret)
      (.seq (.seq (.ops [⟨(some 15), none, .arith .eql (t 9) (v (I 1))⟩,
        ⟨(some 14), none, .mov (t 15)⟩])
      (.cond (t 14)
        .skip
        (.ops [⟨(some 16), none, .arith .eql (t 9) (v (I 3))⟩,
          ⟨(some 14), none, .mov (t 16)⟩])))
      (.cond (t 14)
        (.seq (.ops [⟨(some 17), none, .mov (t 3)⟩,
          ⟨(some 18), none, .arith .geq (t 17) (v (I 0))⟩,
          ⟨(some 19), none, .mov (t 18)⟩,
          ⟨(some 20), some (19, true), .mov (t 3)⟩,
          ⟨(some 21), some (19, true), .fieldAddr 1 (t 5)⟩,
          ⟨(some 22), some (19, true), .load none (t 21)⟩,
          ⟨(some 23), some (19, true), .arith .lss (t 20) (t 22)⟩,
          ⟨(some 24), none, .pick (t 19) (t 23) (v (.bool false))⟩,
          ⟨(some 8), none, .mov (t 24)⟩])
        .ret)
        (.seq (.seq (.ops [⟨(some 26), none, .arith .eql (t 9) (v (I 2))⟩,
          ⟨(some 25), none, .mov (t 26)⟩])
        (.cond (t 25)
          .skip
          (.ops [⟨(some 27), none, .arith .eql (t 9) (v (I 4))⟩,
            ⟨(some 25), none, .mov (t 27)⟩])))
        (.cond (t 25)
          (.seq (.ops [⟨(some 28), none, .mov (t 3)⟩,
            ⟨(some 29), none, .arith .geq (t 28) (v (I (-1)))⟩,
            ⟨(some 30), none, .mov (t 29)⟩,
            ⟨(some 31), some (30, true), .mov (t 3)⟩,
            ⟨(some 32), some (30, true), .fieldAddr 1 (t 5)⟩,
            ⟨(some 33), some (30, true), .load none (t 32)⟩,
            ⟨(some 34), some (30, true), .arith .lss (t 31) (t 33)⟩,
            ⟨(some 35), none, .pick (t 30) (t 34) (v (.bool false))⟩,
            ⟨(some 8), none, .mov (t 35)⟩])
          .ret)
          (.seq (.ops [⟨(some 37), none, .arith .eql (t 9) (v (I 6))⟩,
            ⟨(some 36), none, .mov (t 37)⟩])
          (.cond (t 36)
            (.seq (.ops [⟨(some 38), none, .mov (t 3)⟩,
              ⟨(some 39), none, .arith .geq (t 38) (v (I 0))⟩,
              ⟨(some 40), none, .mov (t 39)⟩,
              ⟨(some 41), some (40, true), .mov (t 3)⟩,
              ⟨(some 42), some (40, true), .fieldAddr 0 (t 4)⟩,
              ⟨(some 43), some (40, true), .load none (t 42)⟩,
              ⟨(some 44), some (40, true), .arith .lss (t 41) (t 43)⟩,
              ⟨(some 45), none, .pick (t 40) (t 44) (v (.bool false))⟩,
              ⟨(some 8), none, .mov (t 45)⟩])
            .ret)
            (.seq (.ops [⟨(some 47), none, .arith .eql (t 9) (v (I 7))⟩,
              ⟨(some 46), none, .mov (t 47)⟩])
            (.cond (t 46)
              (.seq (.ops [⟨(some 48), none, .mov (t 3)⟩,
                ⟨(some 49), none, .arith .geq (t 48) (v (I 0))⟩,
                ⟨(some 50), none, .mov (t 49)⟩,
                ⟨(some 51), some (50, true), .mov (t 3)⟩,
                ⟨(some 52), some (50, true), .fieldAddr 3 (t 5)⟩,
                ⟨(some 53), some (50, true), .load none (t 52)⟩,
                ⟨(some 54), some (50, true), .lenSl (t 53)⟩,
                ⟨(some 55), some (50, true), .arith .lss (t 51) (t 54)⟩,
                ⟨(some 56), none, .pick (t 50) (t 55) (v (.bool false))⟩,
                ⟨(some 8), none, .mov (t 56)⟩])
              .ret)
              (.seq (.ops [⟨(some 58), none, .arith .eql (t 9) (v (I 8))⟩,
                ⟨(some 57), none, .mov (t 58)⟩])
              (.cond (t 57)
                (.seq (.ops [⟨(some 59), none, .mov (t 3)⟩,
                  ⟨(some 60), none, .arith .geq (t 59) (v (I 0))⟩,
                  ⟨(some 61), none, .mov (t 60)⟩,
                  ⟨(some 62), some (61, true), .mov (t 3)⟩,
                  ⟨(some 63), some (61, true), .fieldAddr 1 (t 4)⟩,
                  ⟨(some 64), some (61, true), .load none (t 63)⟩,
                  ⟨(some 65), some (61, true), .lenSl (t 64)⟩,
                  ⟨(some 66), some (61, true), .arith .lss (t 62) (t 65)⟩,
                  ⟨(some 67), none, .pick (t 61) (t 66) (v (.bool false))⟩,
                  ⟨(some 8), none, .mov (t 67)⟩])
                .ret)
                (.seq (.ops [⟨(some 69), none, .arith .eql (t 9) (v (I 9))⟩,
                  ⟨(some 68), none, .mov (t 69)⟩])
                (.cond (t 68)
                  (.seq (.ops [⟨(some 70), none, .mov (t 3)⟩,
                    ⟨(some 71), none, .arith .eql (t 70) (v (I 0))⟩,
                    ⟨(some 72), none, .mov (t 71)⟩,
                    ⟨(some 73), some (72, false), .mov (t 3)⟩,
                    ⟨(some 74), some (72, false), .arith .eql (t 73) (v (I 1))⟩,
                    ⟨(some 75), none, .pick (t 72) (v (.bool true)) (t 74)⟩,
                    ⟨(some 8), none, .mov (t 75)⟩])
                  .ret)
                  (.seq (.ops [⟨(some 77), none, .arith .eql (t 9) (v (I 10))⟩,
                    ⟨(some 76), none, .mov (t 77)⟩])
                  (.cond (t 76)
                    (.seq (.ops [⟨(some 78), none, .mov (t 3)⟩,
                      ⟨(some 79), none, .arith .geq (t 78) (v (I 1))⟩,
                      ⟨(some 80), none, .mov (t 79)⟩,
                      ⟨(some 81), some (80, true), .mov (t 3)⟩,
                      ⟨(some 82), some (80, true), .arith .leq (t 81) (v (I 4))⟩,
                      ⟨(some 83), none, .pick (t 80) (t 82) (v (.bool false))⟩,
                      ⟨(some 8), none, .mov (t 83)⟩])
                    .ret)
                    .skip))))))))))))))))))
  (.seq (.ops [⟨(some 8), none, .mov (v (.bool true))⟩])
  .ret)))⟩

/- slices.Contains[[]string,string] -/
def ir91 : IFunc := ⟨9, [.tmp 4],
  (.seq (.ops [⟨(some 4), none, .mov (v (.bool false))⟩])
  (.seq (.ops [⟨(some 5), none, .mov (t 0)⟩,
    ⟨(some 6), none, .mov (t 1)⟩,
    ⟨(some 7), none, .call (v (Fn 101)) [(t 5), (t 6)]⟩,
    ⟨(some 8), none, .arith .geq (t 7) (v (I 0))⟩,
    ⟨(some 4), none, .mov (t 8)⟩])
  .ret))⟩

/- strings.Fields -/
def ir92 : IFunc := ⟨106, [.tmp 2],
  (.seq (.ops [⟨(some 2), none, .mov (v (.slice none 0 0))⟩])
  (.seq (.ops [⟨(some 3), none, .mov (v (I 0))⟩])
  (.seq (.ops [⟨(some 4), none, .mov (v (I 1))⟩])
  (.seq (.ops [⟨(some 5), none, .mov (v (.int .u8 0))⟩])
  (.seq (.seq (.ops [⟨(some 6), none, .mov (v (I 0))⟩])
  (.block 0
    (.loop
      (.seq (.seq (.ops [⟨(some 13), none, .mov (t 6)⟩,
        ⟨(some 14), none, .mov (t 0)⟩,
        ⟨(some 15), none, .lenStr (t 14)⟩,
        ⟨(some 16), none, .arith .lss (t 13) (t 15)⟩])
      (.cond (t 16)
        .skip
        (.exit 0)))
      (.seq (.block 1
        (.seq (.ops [⟨(some 19), none, .mov (t 0)⟩,
          ⟨(some 20), none, .mov (t 6)⟩,
          ⟨(some 21), none, .indexStr (t 19) (t 20)⟩,
          ⟨(some 7), none, .mov (t 21)⟩])
        (.seq (.ops [⟨(some 22), none, .mov (t 5)⟩,
          ⟨(some 23), none, .mov (t 7)⟩,
          ⟨(some 24), none, .arith .or (t 22) (t 23)⟩,
          ⟨(some 5), none, .mov (t 24)⟩])
        (.seq (.ops [⟨(some 25), none, .mov (t 7)⟩,
          ⟨(some 26), none, .indexAddrArr 256 1 (v (.pointer (some ⟨1, 0, none⟩))) (t 25)⟩,
          ⟨(some 27), none, .load none (t 26)⟩,
          ⟨(some 28), none, .toInt .i64 (t 27)⟩,
          ⟨(some 8), none, .mov (t 28)⟩])
        (.seq (.ops [⟨(some 29), none, .mov (t 3)⟩,
          ⟨(some 30), none, .mov (t 4)⟩,
          ⟨(some 31), none, .mov (t 8)⟩,
          ⟨(some 32), none, .un .xor (t 31)⟩,
          ⟨(some 33), none, .arith .and (t 30) (t 32)⟩,
          ⟨(some 34), none, .arith .add (t 29) (t 33)⟩,
          ⟨(some 3), none, .mov (t 34)⟩])
        (.ops [⟨(some 35), none, .mov (t 8)⟩,
          ⟨(some 4), none, .mov (t 35)⟩]))))))
      (.ops [⟨(some 17), none, .mov (t 6)⟩,
        ⟨(some 18), none, .arith .add (t 17) (v (I 1))⟩,
        ⟨(some 6), none, .mov (t 18)⟩]))))))
  (.seq (.seq (.ops [⟨(some 36), none, .mov (t 5)⟩,
    ⟨(some 37), none, .arith .geq (t 36) (v (.int .u8 128))⟩])
  (.cond (t 37)
    (.seq (.ops [⟨(some 38), none, .mov (t 0)⟩,
      ⟨(some 39), none, .call (v (Fn 102)) [(t 38), (v (Fn 103))]⟩,
      ⟨(some 2), none, .mov (t 39)⟩])
    .ret)
    .skip))
  (.seq (.ops [⟨(some 40), none, .mov (t 3)⟩,
    ⟨(some 41), none, .makeSlice 9 16 [(S [])] (t 40) (t 40)⟩,
    ⟨(some 9), none, .mov (t 41)⟩])
  (.seq (.ops [⟨(some 10), none, .mov (v (I 0))⟩])
  (.seq (.ops [⟨(some 11), none, .mov (v (I 0))⟩])
  (.seq (.ops [⟨(some 12), none, .mov (v (I 0))⟩])
  (.seq (.block 2
    (.loop
      (.seq (.seq (.ops [⟨(some 42), none, .mov (t 12)⟩,
        ⟨(some 43), none, .mov (t 0)⟩,
        ⟨(some 44), none, .lenStr (t 43)⟩,
        ⟨(some 45), none, .arith .lss (t 42) (t 44)⟩,
        ⟨(some 46), none, .mov (t 45)⟩,
        ⟨(some 47), some (46, true), .mov (t 0)⟩,
        ⟨(some 48), some (46, true), .mov (t 12)⟩,
        ⟨(some 49), some (46, true), .indexStr (t 47) (t 48)⟩,
        ⟨(some 50), some (46, true), .indexAddrArr 256 1 (v (.pointer (some ⟨1, 0, none⟩))) (t 49)⟩,
        ⟨(some 51), some (46, true), .load none (t 50)⟩,
        ⟨(some 52), some (46, true), .arith .neq (t 51) (v (.int .u8 0))⟩,
        ⟨(some 53), none, .pick (t 46) (t 52) (v (.bool false))⟩])
      (.cond (t 53)
        .skip
        (.exit 2)))
      (.block 3
        (.ops [⟨(some 54), none, .mov (t 12)⟩,
          ⟨(some 55), none, .arith .add (t 54) (v (I 1))⟩,
          ⟨(some 12), none, .mov (t 55)⟩])))))
  (.seq (.ops [⟨(some 56), none, .mov (t 12)⟩,
    ⟨(some 11), none, .mov (t 56)⟩])
  (.seq (.block 4
    (.loop
      (.seq (.seq (.ops [⟨(some 57), none, .mov (t 12)⟩,
        ⟨(some 58), none, .mov (t 0)⟩,
        ⟨(some 59), none, .lenStr (t 58)⟩,
        ⟨(some 60), none, .arith .lss (t 57) (t 59)⟩])
      (.cond (t 60)
        .skip
        (.exit 4)))
      (.block 5
        (.seq (.seq (.ops [⟨(some 61), none, .mov (t 0)⟩,
          ⟨(some 62), none, .mov (t 12)⟩,
          ⟨(some 63), none, .indexStr (t 61) (t 62)⟩,
          ⟨(some 64), none, .indexAddrArr 256 1 (v (.pointer (some ⟨1, 0, none⟩))) (t 63)⟩,
          ⟨(some 65), none, .load none (t 64)⟩,
          ⟨(some 66), none, .arith .eql (t 65) (v (.int .u8 0))⟩])
        (.cond (t 66)
          (.seq (.ops [⟨(some 67), none, .mov (t 12)⟩,
            ⟨(some 68), none, .arith .add (t 67) (v (I 1))⟩,
            ⟨(some 12), none, .mov (t 68)⟩])
          (.exit 5))
          .skip))
        (.seq (.ops [⟨(some 69), none, .mov (t 9)⟩,
          ⟨(some 70), none, .mov (t 10)⟩,
          ⟨(some 71), none, .mov (t 0)⟩,
          ⟨(some 72), none, .mov (t 11)⟩,
          ⟨(some 73), none, .mov (t 12)⟩,
          ⟨(some 74), none, .sliceStr (t 71) (some (t 72)) (some (t 73))⟩,
          ⟨(some 75), none, .indexAddr 1 (t 69) (t 70)⟩,
          ⟨none, none, .store 1 (t 75) (t 74)⟩])
        (.seq (.ops [⟨(some 76), none, .mov (t 10)⟩,
          ⟨(some 77), none, .arith .add (t 76) (v (I 1))⟩,
          ⟨(some 10), none, .mov (t 77)⟩])
        (.seq (.ops [⟨(some 78), none, .mov (t 12)⟩,
          ⟨(some 79), none, .arith .add (t 78) (v (I 1))⟩,
          ⟨(some 12), none, .mov (t 79)⟩])
        (.seq (.block 6
          (.loop
            (.seq (.seq (.ops [⟨(some 80), none, .mov (t 12)⟩,
              ⟨(some 81), none, .mov (t 0)⟩,
              ⟨(some 82), none, .lenStr (t 81)⟩,
              ⟨(some 83), none, .arith .lss (t 80) (t 82)⟩,
              ⟨(some 84), none, .mov (t 83)⟩,
              ⟨(some 85), some (84, true), .mov (t 0)⟩,
              ⟨(some 86), some (84, true), .mov (t 12)⟩,
              ⟨(some 87), some (84, true), .indexStr (t 85) (t 86)⟩,
              ⟨(some 88), some (84, true), .indexAddrArr 256 1 (v (.pointer (some ⟨1, 0, none⟩))) (t 87)⟩,
              ⟨(some 89), some (84, true), .load none (t 88)⟩,
              ⟨(some 90), some (84, true), .arith .neq (t 89) (v (.int .u8 0))⟩,
              ⟨(some 91), none, .pick (t 84) (t 90) (v (.bool false))⟩])
            (.cond (t 91)
              .skip
              (.exit 6)))
            (.block 7
              (.ops [⟨(some 92), none, .mov (t 12)⟩,
                ⟨(some 93), none, .arith .add (t 92) (v (I 1))⟩,
                ⟨(some 12), none, .mov (t 93)⟩])))))
        (.ops [⟨(some 94), none, .mov (t 12)⟩,
          ⟨(some 11), none, .mov (t 94)⟩]))))))))))
  (.seq (.seq (.ops [⟨(some 95), none, .mov (t 11)⟩,
    ⟨(some 96), none, .mov (t 0)⟩,
    ⟨(some 97), none, .lenStr (t 96)⟩,
    ⟨(some 98), none, .arith .lss (t 95) (t 97)⟩])
  (.cond (t 98)
    (.ops [⟨(some 99), none, .mov (t 9)⟩,
      ⟨(some 100), none, .mov (t 10)⟩,
      ⟨(some 101), none, .mov (t 0)⟩,
      ⟨(some 102), none, .mov (t 11)⟩,
      ⟨(some 103), none, .sliceStr (t 101) (some (t 102)) none⟩,
      ⟨(some 104), none, .indexAddr 1 (t 99) (t 100)⟩,
      ⟨none, none, .store 1 (t 104) (t 103)⟩])
    .skip))
  (.seq (.ops [⟨(some 105), none, .mov (t 9)⟩,
    ⟨(some 2), none, .mov (t 105)⟩])
  .ret)))))))))))))))⟩

/- raddle/lower.lengths -/
def ir93 : IFunc := ⟨43, [.tmp 4, .tmp 5],
  (.seq (.ops [⟨(some 2), none, .box 53 (t 0)⟩,
    ⟨(some 3), none, .box 62 (t 1)⟩,
    ⟨(some 4), none, .mov (v (I 0))⟩,
    ⟨(some 5), none, .mov (v (I 0))⟩])
  (.seq (.seq (.ops [⟨(some 8), none, .fieldAddr 0 (t 3)⟩,
    ⟨(some 9), none, .load none (t 8)⟩])
  (.block 0
    (.seq (.seq (.ops [⟨(some 11), none, .arith .eql (t 9) (v (I 10))⟩,
      ⟨(some 10), none, .mov (t 11)⟩])
    (.cond (t 10)
      .skip
      (.seq (.ops [⟨(some 12), none, .arith .eql (t 9) (v (I 17))⟩,
        ⟨(some 10), none, .mov (t 12)⟩])
      (.cond (t 10)
        .skip
        (.ops [⟨(some 13), none, .arith .eql (t 9) (v (I 18))⟩,
          ⟨(some 10), none, .mov (t 13)⟩])))))
    (.cond (t 10)
      (.seq (.ops [⟨(some 4), none, .mov (v (I 1))⟩,
        ⟨(some 5), none, .mov (v (I 2))⟩])
      .ret)
      (.seq (.seq (.ops [⟨(some 15), none, .arith .eql (t 9) (v (I 21))⟩,
        ⟨(some 14), none, .mov (t 15)⟩])
      (.cond (t 14)
        .skip
        (.ops [⟨(some 16), none, .arith .eql (t 9) (v (I 27))⟩,
          ⟨(some 14), none, .mov (t 16)⟩])))
      (.cond (t 14)
        (.seq (.ops [⟨(some 17), none, .fieldAddr 1 (t 2)⟩,
          ⟨(some 18), none, .load none (t 17)⟩,
          ⟨(some 19), none, .fieldAddr 2 (t 3)⟩,
          ⟨(some 20), none, .load none (t 19)⟩,
          ⟨(some 21), none, .indexAddr 4 (t 18) (t 20)⟩,
          ⟨(some 22), none, .fieldAddr 2 (t 21)⟩,
          ⟨(some 23), none, .load none (t 22)⟩,
          ⟨(some 6), none, .mov (t 23)⟩])
        (.seq (.ops [⟨(some 24), none, .mov (t 6)⟩,
          ⟨(some 25), none, .mov (t 6)⟩,
          ⟨(some 4), none, .mov (t 24)⟩,
          ⟨(some 5), none, .mov (t 25)⟩])
        .ret))
        (.seq (.ops [⟨(some 27), none, .arith .eql (t 9) (v (I 33))⟩,
          ⟨(some 26), none, .mov (t 27)⟩])
        (.cond (t 26)
          (.seq (.ops [⟨(some 4), none, .mov (v (I 1))⟩,
            ⟨(some 5), none, .mov (v (I 1))⟩])
          .ret)
          (.seq (.ops [⟨(some 29), none, .arith .eql (t 9) (v (I 35))⟩,
            ⟨(some 28), none, .mov (t 29)⟩])
          (.cond (t 28)
            (.seq (.seq (.ops [⟨(some 30), none, .fieldAddr 5 (t 3)⟩,
              ⟨(some 31), none, .load none (t 30)⟩])
            (.block 1
              (.seq (.ops [⟨(some 33), none, .arith .eql (t 31) (v (S [114, 101, 97, 100]))⟩,
                ⟨(some 32), none, .mov (t 33)⟩])
              (.cond (t 32)
                (.seq (.ops [⟨(some 4), none, .mov (v (I 0))⟩,
                  ⟨(some 5), none, .mov (v (I 0))⟩])
                .ret)
                (.seq (.ops [⟨(some 35), none, .arith .eql (t 31) (v (S [99, 111, 109, 112, 97, 114, 101, 65, 110, 100, 83, 119, 97, 112]))⟩,
                  ⟨(some 34), none, .mov (t 35)⟩])
                (.cond (t 34)
                  (.seq (.ops [⟨(some 4), none, .mov (v (I 2))⟩,
                    ⟨(some 5), none, .mov (v (I 2))⟩])
                  .ret)
                  .skip))))))
            (.seq (.ops [⟨(some 4), none, .mov (v (I 1))⟩,
              ⟨(some 5), none, .mov (v (I 1))⟩])
            .ret))
            (.seq (.ops [⟨(some 37), none, .arith .eql (t 9) (v (I 36))⟩,
              ⟨(some 36), none, .mov (t 37)⟩])
            (.cond (t 36)
              (.seq (.ops [⟨(some 38), none, .fieldAddr 5 (t 3)⟩,
                ⟨(some 39), none, .load none (t 38)⟩,
                ⟨(some 40), none, .call (v (Fn 104)) [(t 39), (v (S [0]))]⟩,
                ⟨(some 7), none, .mov (t 40)⟩])
              (.seq (.ops [⟨(some 41), none, .mov (t 7)⟩,
                ⟨(some 42), none, .mov (t 7)⟩,
                ⟨(some 4), none, .mov (t 41)⟩,
                ⟨(some 5), none, .mov (t 42)⟩])
              .ret))
              .skip))))))))))))
  (.seq (.ops [⟨(some 4), none, .mov (v (I 0))⟩,
    ⟨(some 5), none, .mov (v (I 0))⟩])
  .ret)))⟩

/- slices.ContainsFunc[[]int,int] -/
def ir94 : IFunc := ⟨9, [.tmp 4],
  (.seq (.ops [⟨(some 4), none, .mov (v (.bool false))⟩])
  (.seq (.ops [⟨(some 5), none, .mov (t 0)⟩,
    ⟨(some 6), none, .mov (t 1)⟩,
    ⟨(some 7), none, .call (v (Fn 80)) [(t 5), (t 6)]⟩,
    ⟨(some 8), none, .arith .geq (t 7) (v (I 0))⟩,
    ⟨(some 4), none, .mov (t 8)⟩])
  .ret))⟩

/- raddle/lower.right$1 -/
def ir95 : IFunc := ⟨10, [.tmp 4],
  (.seq (.ops [⟨(some 4), none, .mov (v (.bool false))⟩])
  (.seq (.ops [⟨(some 5), none, .load (some 2) (t 1)⟩,
    ⟨(some 6), none, .load (some 4) (t 2)⟩,
    ⟨(some 7), none, .mov (t 0)⟩,
    ⟨(some 8), none, .call (v (Fn 90)) [(t 5), (t 6), (v (I 1)), (t 7)]⟩,
    ⟨(some 9), none, .un .not (t 8)⟩,
    ⟨(some 4), none, .mov (t 9)⟩])
  .ret))⟩

/- strings.IndexFunc -/
def ir100 : IFunc := ⟨8, [.tmp 4],
  (.seq (.ops [⟨(some 4), none, .mov (v (I 0))⟩])
  (.seq (.ops [⟨(some 5), none, .mov (t 0)⟩,
    ⟨(some 6), none, .mov (t 1)⟩,
    ⟨(some 7), none, .call (v (Fn 107)) [(t 5), (t 6), (v (.bool true))]⟩,
    ⟨(some 4), none, .mov (t 7)⟩])
  .ret))⟩

/- slices.Index[[]string,string] -/
def ir101 : IFunc := ⟨19, [.tmp 4],
  (.seq (.ops [⟨(some 4), none, .mov (v (I 0))⟩])
  (.seq (.seq (.ops [⟨(some 6), none, .mov (t 0)⟩,
    ⟨(some 7), none, .lenSl (t 6)⟩,
    ⟨(some 8), none, .mov (v (I 0))⟩])
  (.block 0
    (.loop
      (.seq (.ops [⟨(some 9), none, .arith .lss (t 8) (t 7)⟩])
      (.seq (.cond (t 9)
        .skip
        (.exit 0))
      (.seq (.block 1
        (.seq (.ops [⟨(some 10), none, .mov (t 8)⟩,
          ⟨(some 5), none, .mov (t 10)⟩])
        (.seq (.ops [⟨(some 11), none, .mov (t 1)⟩,
          ⟨(some 12), none, .mov (t 0)⟩,
          ⟨(some 13), none, .mov (t 5)⟩,
          ⟨(some 14), none, .indexAddr 1 (t 12) (t 13)⟩,
          ⟨(some 15), none, .load none (t 14)⟩,
          ⟨(some 16), none, .arith .eql (t 11) (t 15)⟩])
        (.cond (t 16)
          (.seq (.ops [⟨(some 17), none, .mov (t 5)⟩,
            ⟨(some 4), none, .mov (t 17)⟩])
          .ret)
          .skip))))
      (.ops [⟨(some 18), none, .arith .add (t 8) (v (I 1))⟩,
        ⟨(some 8), none, .mov (t 18)⟩])))))))
  (.seq (.ops [⟨(some 4), none, .mov (v (I (-1)))⟩])
  .ret)))⟩

/- strings.FieldsFunc -/
def ir102 : IFunc := ⟨65, [.tmp 4],
  (.seq (.ops [⟨(some 4), none, .mov (v (.slice none 0 0))⟩])
  (.seq (.ops [⟨(some 12), none, .makeSlice 153 16 [(I 0), (I 0)] (v (I 0)) (v (I 32))⟩,
    ⟨(some 5), none, .mov (t 12)⟩])
  (.seq (.ops [⟨(some 6), none, .mov (v (I (-1)))⟩])
  (.seq (.seq (.ops [⟨(some 13), none, .mov (t 0)⟩,
    ⟨(some 14), none, .rangeStr (t 13)⟩])
  (.block 0
    (.loop
      (.seq (.ops [⟨(some 15), none, .nextStr (t 14)⟩,
        ⟨(some 16), none, .extract (t 15) 0⟩])
      (.seq (.cond (t 16)
        .skip
        (.exit 0))
      (.block 1
        (.seq (.ops [⟨(some 17), none, .extract (t 15) 1⟩,
          ⟨(some 18), none, .extract (t 15) 2⟩,
          ⟨(some 7), none, .mov (t 17)⟩,
          ⟨(some 8), none, .mov (t 18)⟩])
        (.seq (.ops [⟨(some 19), none, .mov (t 1)⟩,
          ⟨(some 20), none, .mov (t 8)⟩,
          ⟨(some 21), none, .call (t 19) [(t 20)]⟩])
        (.cond (t 21)
          (.seq (.ops [⟨(some 22), none, .mov (t 6)⟩,
            ⟨(some 23), none, .arith .geq (t 22) (v (I 0))⟩])
          (.cond (t 23)
            (.seq (.ops [⟨(some 24), none, .mov (t 5)⟩,
              ⟨(some 25), none, .mov (t 6)⟩,
              ⟨(some 26), none, .mov (t 7)⟩,
              ⟨(some 27), none, .build [(I 0), (I 0)] [(0, 1, (t 25)), (1, 1, (t 26))]⟩,
              ⟨(some 28), none, .buildSlice 153 1 [(I 0), (I 0)] [(0, 2, (t 27))]⟩,
              ⟨(some 29), none, .append 153 2 16 (t 24) (t 28)⟩,
              ⟨(some 5), none, .mov (t 29)⟩])
            (.ops [⟨(some 30), none, .mov (t 6)⟩,
              ⟨(some 31), none, .un .xor (t 30)⟩,
              ⟨(some 6), none, .mov (t 31)⟩]))
            .skip))
          (.seq (.ops [⟨(some 32), none, .mov (t 6)⟩,
            ⟨(some 33), none, .arith .lss (t 32) (v (I 0))⟩])
          (.cond (t 33)
            (.ops [⟨(some 34), none, .mov (t 7)⟩,
              ⟨(some 6), none, .mov (t 34)⟩])
            .skip)))))))))))
  (.seq (.seq (.ops [⟨(some 35), none, .mov (t 6)⟩,
    ⟨(some 36), none, .arith .geq (t 35) (v (I 0))⟩])
  (.cond (t 36)
    (.ops [⟨(some 37), none, .mov (t 5)⟩,
      ⟨(some 38), none, .mov (t 6)⟩,
      ⟨(some 39), none, .mov (t 0)⟩,
      ⟨(some 40), none, .lenStr (t 39)⟩,
      ⟨(some 41), none, .build [(I 0), (I 0)] [(0, 1, (t 38)), (1, 1, (t 40))]⟩,
      ⟨(some 42), none, .buildSlice 153 1 [(I 0), (I 0)] [(0, 2, (t 41))]⟩,
      ⟨(some 43), none, .append 153 2 16 (t 37) (t 42)⟩,
      ⟨(some 5), none, .mov (t 43)⟩])
    .skip))
  (.seq (.ops [⟨(some 44), none, .mov (t 5)⟩,
    ⟨(some 45), none, .lenSl (t 44)⟩,
    ⟨(some 46), none, .makeSlice 9 16 [(S [])] (t 45) (t 45)⟩,
    ⟨(some 9), none, .mov (t 46)⟩])
  (.seq (.seq (.ops [⟨(some 47), none, .mov (t 5)⟩,
    ⟨(some 48), none, .lenSl (t 47)⟩,
    ⟨(some 49), none, .mov (v (I 0))⟩])
  (.block 2
    (.loop
      (.seq (.ops [⟨(some 50), none, .arith .lss (t 49) (t 48)⟩])
      (.seq (.cond (t 50)
        .skip
        (.exit 2))
      (.seq (.block 3
        (.seq (.ops [⟨(some 51), none, .mov (t 49)⟩,
          ⟨(some 52), none, .indexAddr 2 (t 47) (t 49)⟩,
          ⟨(some 53), none, .load (some 2) (t 52)⟩,
          ⟨(some 11), none, .box 153 (v (.agg #[(I 0), (I 0)]))⟩,
          ⟨(some 10), none, .mov (t 51)⟩,
          ⟨none, none, .store 2 (t 11) (t 53)⟩])
        (.ops [⟨(some 54), none, .mov (t 9)⟩,
          ⟨(some 55), none, .mov (t 10)⟩,
          ⟨(some 56), none, .mov (t 0)⟩,
          ⟨(some 57), none, .fieldAddr 0 (t 11)⟩,
          ⟨(some 58), none, .load none (t 57)⟩,
          ⟨(some 59), none, .fieldAddr 1 (t 11)⟩,
          ⟨(some 60), none, .load none (t 59)⟩,
          ⟨(some 61), none, .sliceStr (t 56) (some (t 58)) (some (t 60))⟩,
          ⟨(some 62), none, .indexAddr 1 (t 54) (t 55)⟩,
          ⟨none, none, .store 1 (t 62) (t 61)⟩])))
      (.ops [⟨(some 63), none, .arith .add (t 49) (v (I 1))⟩,
        ⟨(some 49), none, .mov (t 63)⟩])))))))
  (.seq (.ops [⟨(some 64), none, .mov (t 9)⟩,
    ⟨(some 4), none, .mov (t 64)⟩])
  .ret))))))))⟩

/- strings.Count -/
def ir104 : IFunc := ⟨34, [.tmp 4],
  (.seq (.ops [⟨(some 4), none, .mov (v (I 0))⟩])
  (.seq (.seq (.ops [⟨(some 7), none, .mov (t 1)⟩,
    ⟨(some 8), none, .lenStr (t 7)⟩,
    ⟨(some 9), none, .arith .eql (t 8) (v (I 0))⟩])
  (.cond (t 9)
    (.seq (.ops [⟨(some 10), none, .mov (t 0)⟩,
      ⟨(some 11), none, .call (v (Fn 109)) [(t 10)]⟩,
      ⟨(some 12), none, .arith .add (t 11) (v (I 1))⟩,
      ⟨(some 4), none, .mov (t 12)⟩])
    .ret)
    .skip))
  (.seq (.seq (.ops [⟨(some 13), none, .mov (t 1)⟩,
    ⟨(some 14), none, .lenStr (t 13)⟩,
    ⟨(some 15), none, .arith .eql (t 14) (v (I 1))⟩])
  (.cond (t 15)
    (.seq (.ops [⟨(some 16), none, .mov (t 0)⟩,
      ⟨(some 17), none, .mov (t 1)⟩,
      ⟨(some 18), none, .indexStr (t 17) (v (I 0))⟩,
      ⟨(some 19), none, .call (v (Fn 110)) [(t 16), (t 18)]⟩,
      ⟨(some 4), none, .mov (t 19)⟩])
    .ret)
    .skip))
  (.seq (.ops [⟨(some 5), none, .mov (v (I 0))⟩])
  (.block 0
    (.loop
      (.block 1
        (.seq (.ops [⟨(some 20), none, .mov (t 0)⟩,
          ⟨(some 21), none, .mov (t 1)⟩,
          ⟨(some 22), none, .call (v (Fn 111)) [(t 20), (t 21)]⟩,
          ⟨(some 6), none, .mov (t 22)⟩])
        (.seq (.seq (.ops [⟨(some 23), none, .mov (t 6)⟩,
          ⟨(some 24), none, .arith .eql (t 23) (v (I (-1)))⟩])
        (.cond (t 24)
          (.seq (.ops [⟨(some 25), none, .mov (t 5)⟩,
            ⟨(some 4), none, .mov (t 25)⟩])
          .ret)
          .skip))
        (.seq (.ops [⟨(some 26), none, .mov (t 5)⟩,
          ⟨(some 27), none, .arith .add (t 26) (v (I 1))⟩,
          ⟨(some 5), none, .mov (t 27)⟩])
        (.ops [⟨(some 28), none, .mov (t 0)⟩,
          ⟨(some 29), none, .mov (t 6)⟩,
          ⟨(some 30), none, .mov (t 1)⟩,
          ⟨(some 31), none, .lenStr (t 30)⟩,
          ⟨(some 32), none, .arith .add (t 29) (t 31)⟩,
          ⟨(some 33), none, .sliceStr (t 28) (some (t 32)) none⟩,
          ⟨(some 0), none, .mov (t 33)⟩])))))))))))⟩

/- strings.indexFunc -/
def ir107 : IFunc := ⟨21, [.tmp 6],
  (.seq (.ops [⟨(some 6), none, .mov (v (I 0))⟩])
  (.seq (.seq (.ops [⟨(some 9), none, .mov (t 0)⟩,
    ⟨(some 10), none, .rangeStr (t 9)⟩])
  (.block 0
    (.loop
      (.seq (.ops [⟨(some 11), none, .nextStr (t 10)⟩,
        ⟨(some 12), none, .extract (t 11) 0⟩])
      (.seq (.cond (t 12)
        .skip
        (.exit 0))
      (.block 1
        (.seq (.ops [⟨(some 13), none, .extract (t 11) 1⟩,
          ⟨(some 14), none, .extract (t 11) 2⟩,
          ⟨(some 7), none, .mov (t 13)⟩,
          ⟨(some 8), none, .mov (t 14)⟩])
        (.seq (.ops [⟨(some 15), none, .mov (t 1)⟩,
          ⟨(some 16), none, .mov (t 8)⟩,
          ⟨(some 17), none, .call (t 15) [(t 16)]⟩,
          ⟨(some 18), none, .mov (t 2)⟩,
          ⟨(some 19), none, .eqBool false (t 17) (t 18)⟩])
        (.cond (t 19)
          (.seq (.ops [⟨(some 20), none, .mov (t 7)⟩,
            ⟨(some 6), none, .mov (t 20)⟩])
          .ret)
          .skip)))))))))
  (.seq (.ops [⟨(some 6), none, .mov (v (I (-1)))⟩])
  .ret)))⟩

/- unicode.isExcludingLatin -/
def ir108 : IFunc := ⟨59, [.tmp 4],
  (.seq (.ops [⟨(some 4), none, .mov (v (.bool false))⟩])
  (.seq (.ops [⟨(some 8), none, .mov (t 0)⟩,
    ⟨(some 9), none, .nilCheck (t 8)⟩,
    ⟨(some 10), none, .fieldAddr 0 (t 9)⟩,
    ⟨(some 11), none, .load none (t 10)⟩,
    ⟨(some 5), none, .mov (t 11)⟩])
  (.seq (.seq (.ops [⟨(some 12), none, .mov (t 0)⟩,
    ⟨(some 13), none, .nilCheck (t 12)⟩,
    ⟨(some 14), none, .fieldAddr 2 (t 13)⟩,
    ⟨(some 15), none, .load none (t 14)⟩,
    ⟨(some 6), none, .mov (t 15)⟩])
  (.seq (.ops [⟨(some 16), none, .mov (t 5)⟩,
    ⟨(some 17), none, .lenSl (t 16)⟩,
    ⟨(some 18), none, .mov (t 6)⟩,
    ⟨(some 19), none, .arith .gtr (t 17) (t 18)⟩,
    ⟨(some 20), none, .mov (t 19)⟩,
    ⟨(some 21), some (20, true), .mov (t 1)⟩,
    ⟨(some 22), some (20, true), .toInt .u32 (t 21)⟩,
    ⟨(some 23), some (20, true), .mov (t 5)⟩,
    ⟨(some 24), some (20, true), .mov (t 5)⟩,
    ⟨(some 25), some (20, true), .lenSl (t 24)⟩,
    ⟨(some 26), some (20, true), .arith .sub (t 25) (v (I 1))⟩,
    ⟨(some 27), some (20, true), .indexAddr 3 (t 23) (t 26)⟩,
    ⟨(some 28), some (20, true), .fieldAddr 1 (t 27)⟩,
    ⟨(some 29), some (20, true), .load none (t 28)⟩,
    ⟨(some 30), some (20, true), .toInt .u32 (t 29)⟩,
    ⟨(some 31), some (20, true), .arith .leq (t 22) (t 30)⟩,
    ⟨(some 32), none, .pick (t 20) (t 31) (v (.bool false))⟩])
  (.cond (t 32)
    (.seq (.ops [⟨(some 33), none, .mov (t 5)⟩,
      ⟨(some 34), none, .mov (t 6)⟩,
      ⟨(some 35), none, .slice 164 3 (t 33) (some (t 34)) none none⟩,
      ⟨(some 36), none, .mov (t 1)⟩,
      ⟨(some 37), none, .toInt .u16 (t 36)⟩,
      ⟨(some 38), none, .call (v (Fn 112)) [(t 35), (t 37)]⟩,
      ⟨(some 4), none, .mov (t 38)⟩])
    .ret)
    .skip)))
  (.seq (.ops [⟨(some 39), none, .mov (t 0)⟩,
    ⟨(some 40), none, .nilCheck (t 39)⟩,
    ⟨(some 41), none, .fieldAddr 1 (t 40)⟩,
    ⟨(some 42), none, .load none (t 41)⟩,
    ⟨(some 7), none, .mov (t 42)⟩])
  (.seq (.seq (.ops [⟨(some 43), none, .mov (t 7)⟩,
    ⟨(some 44), none, .lenSl (t 43)⟩,
    ⟨(some 45), none, .arith .gtr (t 44) (v (I 0))⟩,
    ⟨(some 46), none, .mov (t 45)⟩,
    ⟨(some 47), some (46, true), .mov (t 1)⟩,
    ⟨(some 48), some (46, true), .mov (t 7)⟩,
    ⟨(some 49), some (46, true), .indexAddr 3 (t 48) (v (I 0))⟩,
    ⟨(some 50), some (46, true), .fieldAddr 0 (t 49)⟩,
    ⟨(some 51), some (46, true), .load none (t 50)⟩,
    ⟨(some 52), some (46, true), .toInt .i32 (t 51)⟩,
    ⟨(some 53), some (46, true), .arith .geq (t 47) (t 52)⟩,
    ⟨(some 54), none, .pick (t 46) (t 53) (v (.bool false))⟩])
  (.cond (t 54)
    (.seq (.ops [⟨(some 55), none, .mov (t 7)⟩,
      ⟨(some 56), none, .mov (t 1)⟩,
      ⟨(some 57), none, .toInt .u32 (t 56)⟩,
      ⟨(some 58), none, .call (v (Fn 113)) [(t 55), (t 57)]⟩,
      ⟨(some 4), none, .mov (t 58)⟩])
    .ret)
    .skip))
  (.seq (.ops [⟨(some 4), none, .mov (v (.bool false))⟩])
  .ret))))))⟩

/- unicode/utf8.RuneCountInString -/
def ir109 : IFunc := ⟨10, [.tmp 2],
  (.seq (.ops [⟨(some 2), none, .mov (v (I 0))⟩])
  (.seq (.seq (.ops [⟨(some 3), none, .mov (t 0)⟩,
    ⟨(some 4), none, .rangeStr (t 3)⟩])
  (.block 0
    (.loop
      (.seq (.ops [⟨(some 5), none, .nextStr (t 4)⟩,
        ⟨(some 6), none, .extract (t 5) 0⟩])
      (.seq (.cond (t 6)
        .skip
        (.exit 0))
      (.block 1
        (.ops [⟨(some 7), none, .mov (t 2)⟩,
          ⟨(some 8), none, .arith .add (t 7) (v (I 1))⟩,
          ⟨(some 2), none, .mov (t 8)⟩])))))))
  (.seq (.ops [⟨(some 9), none, .mov (t 2)⟩,
    ⟨(some 2), none, .mov (t 9)⟩])
  .ret)))⟩

/- strings.Index -/
def ir111 : IFunc := ⟨8, [.tmp 4],
  (.seq (.ops [⟨(some 4), none, .mov (v (I 0))⟩])
  (.seq (.ops [⟨(some 5), none, .mov (t 0)⟩,
    ⟨(some 6), none, .mov (t 1)⟩,
    ⟨(some 7), none, .call (v (Fn 114)) [(t 5), (t 6)]⟩,
    ⟨(some 4), none, .mov (t 7)⟩])
  .ret))⟩

/- unicode.is16 -/
def ir112 : IFunc := ⟨114, [.tmp 4],
  (.seq (.ops [⟨(some 4), none, .mov (v (.bool false))⟩])
  (.seq (.seq (.ops [⟨(some 11), none, .mov (t 0)⟩,
    ⟨(some 12), none, .lenSl (t 11)⟩,
    ⟨(some 13), none, .arith .leq (t 12) (v (I 18))⟩,
    ⟨(some 14), none, .mov (t 13)⟩,
    ⟨(some 15), some (14, false), .mov (t 1)⟩,
    ⟨(some 16), some (14, false), .arith .leq (t 15) (v (.int .u16 255))⟩,
    ⟨(some 17), none, .pick (t 14) (v (.bool true)) (t 16)⟩])
  (.cond (t 17)
    (.seq (.seq (.ops [⟨(some 18), none, .mov (t 0)⟩,
      ⟨(some 19), none, .lenSl (t 18)⟩,
      ⟨(some 20), none, .mov (v (I 0))⟩])
    (.block 0
      (.loop
        (.seq (.ops [⟨(some 21), none, .arith .lss (t 20) (t 19)⟩])
        (.seq (.cond (t 21)
          .skip
          (.exit 0))
        (.seq (.block 1
          (.seq (.ops [⟨(some 22), none, .mov (t 20)⟩,
            ⟨(some 5), none, .mov (t 22)⟩])
          (.seq (.ops [⟨(some 23), none, .mov (t 0)⟩,
            ⟨(some 24), none, .mov (t 5)⟩,
            ⟨(some 25), none, .indexAddr 3 (t 23) (t 24)⟩,
            ⟨(some 6), none, .mov (t 25)⟩])
          (.seq (.seq (.ops [⟨(some 26), none, .mov (t 1)⟩,
            ⟨(some 27), none, .mov (t 6)⟩,
            ⟨(some 28), none, .nilCheck (t 27)⟩,
            ⟨(some 29), none, .fieldAddr 0 (t 28)⟩,
            ⟨(some 30), none, .load none (t 29)⟩,
            ⟨(some 31), none, .arith .lss (t 26) (t 30)⟩])
          (.cond (t 31)
            (.seq (.ops [⟨(some 4), none, .mov (v (.bool false))⟩])
            .ret)
            .skip))
          (.seq (.ops [⟨(some 32), none, .mov (t 1)⟩,
            ⟨(some 33), none, .mov (t 6)⟩,
            ⟨(some 34), none, .nilCheck (t 33)⟩,
            ⟨(some 35), none, .fieldAddr 1 (t 34)⟩,
            ⟨(some 36), none, .load none (t 35)⟩,
            ⟨(some 37), none, .arith .leq (t 32) (t 36)⟩])
          (.cond (t 37)
            (.seq (.draw [⟨(some 38), none, .mov (t 6)⟩,
              ⟨(some 39), none, .nilCheck (t 38)⟩,
              ⟨(some 40), none, .fieldAddr 2 (t 39)⟩,
              ⟨(some 41), none, .load none (t 40)⟩,
              ⟨(some 42), none, .arith .eql (t 41) (v (.int .u16 1))⟩,
              ⟨(some 43), none, .mov (t 42)⟩,
              ⟨(some 44), some (43, false), .mov (t 1)⟩,
              ⟨(some 45), some (43, false), .mov (t 6)⟩,
              ⟨(some 46), some (43, false), .nilCheck (t 45)⟩,
              ⟨(some 47), some (43, false), .fieldAddr 0 (t 46)⟩,
              ⟨(some 48), some (43, false), .load none (t 47)⟩,
              ⟨(some 49), some (43, false), .arith .sub (t 44) (t 48)⟩,
              ⟨(some 50), some (43, false), .mov (t 6)⟩,
              ⟨(some 51), some (43, false), .nilCheck (t 50)⟩,
              ⟨(some 52), some (43, false), .fieldAddr 2 (t 51)⟩,
              ⟨(some 53), some (43, false), .load none (t 52)⟩]
              [⟨(some 54), some (43, false), .arith .rem (t 49) (t 53)⟩,
              ⟨(some 55), some (43, false), .arith .eql (t 54) (v (.int .u16 0))⟩,
              ⟨(some 56), none, .pick (t 43) (v (.bool true)) (t 55)⟩,
              ⟨(some 4), none, .mov (t 56)⟩])
            .ret)
            .skip))))))
        (.ops [⟨(some 57), none, .arith .add (t 20) (v (I 1))⟩,
          ⟨(some 20), none, .mov (t 57)⟩])))))))
    (.seq (.ops [⟨(some 4), none, .mov (v (.bool false))⟩])
    .ret))
    .skip))
  (.seq (.ops [⟨(some 7), none, .mov (v (I 0))⟩])
  (.seq (.ops [⟨(some 58), none, .mov (t 0)⟩,
    ⟨(some 59), none, .lenSl (t 58)⟩,
    ⟨(some 8), none, .mov (t 59)⟩])
  (.seq (.block 2
    (.loop
      (.seq (.seq (.ops [⟨(some 60), none, .mov (t 7)⟩,
        ⟨(some 61), none, .mov (t 8)⟩,
        ⟨(some 62), none, .arith .lss (t 60) (t 61)⟩])
      (.cond (t 62)
        .skip
        (.exit 2)))
      (.block 3
        (.seq (.ops [⟨(some 63), none, .mov (t 7)⟩,
          ⟨(some 64), none, .mov (t 8)⟩,
          ⟨(some 65), none, .arith .add (t 63) (t 64)⟩,
          ⟨(some 66), none, .toInt .u64 (t 65)⟩,
          ⟨(some 67), none, .arith .shr (t 66) (v (.int .u64 1))⟩,
          ⟨(some 68), none, .toInt .i64 (t 67)⟩,
          ⟨(some 9), none, .mov (t 68)⟩])
        (.seq (.ops [⟨(some 69), none, .mov (t 0)⟩,
          ⟨(some 70), none, .mov (t 9)⟩,
          ⟨(some 71), none, .indexAddr 3 (t 69) (t 70)⟩,
          ⟨(some 10), none, .mov (t 71)⟩])
        (.seq (.seq (.ops [⟨(some 72), none, .mov (t 10)⟩,
          ⟨(some 73), none, .nilCheck (t 72)⟩,
          ⟨(some 74), none, .fieldAddr 0 (t 73)⟩,
          ⟨(some 75), none, .load none (t 74)⟩,
          ⟨(some 76), none, .mov (t 1)⟩,
          ⟨(some 77), none, .arith .leq (t 75) (t 76)⟩,
          ⟨(some 78), none, .mov (t 77)⟩,
          ⟨(some 79), some (78, true), .mov (t 1)⟩,
          ⟨(some 80), some (78, true), .mov (t 10)⟩,
          ⟨(some 81), some (78, true), .nilCheck (t 80)⟩,
          ⟨(some 82), some (78, true), .fieldAddr 1 (t 81)⟩,
          ⟨(some 83), some (78, true), .load none (t 82)⟩,
          ⟨(some 84), some (78, true), .arith .leq (t 79) (t 83)⟩,
          ⟨(some 85), none, .pick (t 78) (t 84) (v (.bool false))⟩])
        (.cond (t 85)
          (.seq (.draw [⟨(some 86), none, .mov (t 10)⟩,
            ⟨(some 87), none, .nilCheck (t 86)⟩,
            ⟨(some 88), none, .fieldAddr 2 (t 87)⟩,
            ⟨(some 89), none, .load none (t 88)⟩,
            ⟨(some 90), none, .arith .eql (t 89) (v (.int .u16 1))⟩,
            ⟨(some 91), none, .mov (t 90)⟩,
            ⟨(some 92), some (91, false), .mov (t 1)⟩,
            ⟨(some 93), some (91, false), .mov (t 10)⟩,
            ⟨(some 94), some (91, false), .nilCheck (t 93)⟩,
            ⟨(some 95), some (91, false), .fieldAddr 0 (t 94)⟩,
            ⟨(some 96), some (91, false), .load none (t 95)⟩,
            ⟨(some 97), some (91, false), .arith .sub (t 92) (t 96)⟩,
            ⟨(some 98), some (91, false), .mov (t 10)⟩,
            ⟨(some 99), some (91, false), .nilCheck (t 98)⟩,
            ⟨(some 100), some (91, false), .fieldAddr 2 (t 99)⟩,
            ⟨(some 101), some (91, false), .load none (t 100)⟩]
            [⟨(some 102), some (91, false), .arith .rem (t 97) (t 101)⟩,
            ⟨(some 103), some (91, false), .arith .eql (t 102) (v (.int .u16 0))⟩,
            ⟨(some 104), none, .pick (t 91) (v (.bool true)) (t 103)⟩,
            ⟨(some 4), none, .mov (t 104)⟩])
          .ret)
          .skip))
        (.seq (.ops [⟨(some 105), none, .mov (t 1)⟩,
          ⟨(some 106), none, .mov (t 10)⟩,
          ⟨(some 107), none, .nilCheck (t 106)⟩,
          ⟨(some 108), none, .fieldAddr 0 (t 107)⟩,
          ⟨(some 109), none, .load none (t 108)⟩,
          ⟨(some 110), none, .arith .lss (t 105) (t 109)⟩])
        (.cond (t 110)
          (.ops [⟨(some 111), none, .mov (t 9)⟩,
            ⟨(some 8), none, .mov (t 111)⟩])
          (.ops [⟨(some 112), none, .mov (t 9)⟩,
            ⟨(some 113), none, .arith .add (t 112) (v (I 1))⟩,
            ⟨(some 7), none, .mov (t 113)⟩]))))))))))
  (.seq (.ops [⟨(some 4), none, .mov (v (.bool false))⟩])
  .ret))))))⟩

/- unicode.is32 -/
def ir113 : IFunc := ⟨99, [.tmp 4],
  (.seq (.ops [⟨(some 4), none, .mov (v (.bool false))⟩])
  (.seq (.seq (.ops [⟨(some 11), none, .mov (t 0)⟩,
    ⟨(some 12), none, .lenSl (t 11)⟩,
    ⟨(some 13), none, .arith .leq (t 12) (v (I 18))⟩])
  (.cond (t 13)
    (.seq (.seq (.ops [⟨(some 14), none, .mov (t 0)⟩,
      ⟨(some 15), none, .lenSl (t 14)⟩,
      ⟨(some 16), none, .mov (v (I 0))⟩])
    (.block 0
      (.loop
        (.seq (.ops [⟨(some 17), none, .arith .lss (t 16) (t 15)⟩])
        (.seq (.cond (t 17)
          .skip
          (.exit 0))
        (.seq (.block 1
          (.seq (.ops [⟨(some 18), none, .mov (t 16)⟩,
            ⟨(some 5), none, .mov (t 18)⟩])
          (.seq (.ops [⟨(some 19), none, .mov (t 0)⟩,
            ⟨(some 20), none, .mov (t 5)⟩,
            ⟨(some 21), none, .indexAddr 3 (t 19) (t 20)⟩,
            ⟨(some 6), none, .mov (t 21)⟩])
          (.seq (.seq (.ops [⟨(some 22), none, .mov (t 1)⟩,
            ⟨(some 23), none, .mov (t 6)⟩,
            ⟨(some 24), none, .nilCheck (t 23)⟩,
            ⟨(some 25), none, .fieldAddr 0 (t 24)⟩,
            ⟨(some 26), none, .load none (t 25)⟩,
            ⟨(some 27), none, .arith .lss (t 22) (t 26)⟩])
          (.cond (t 27)
            (.seq (.ops [⟨(some 4), none, .mov (v (.bool false))⟩])
            .ret)
            .skip))
          (.seq (.ops [⟨(some 28), none, .mov (t 1)⟩,
            ⟨(some 29), none, .mov (t 6)⟩,
            ⟨(some 30), none, .nilCheck (t 29)⟩,
            ⟨(some 31), none, .fieldAddr 1 (t 30)⟩,
            ⟨(some 32), none, .load none (t 31)⟩,
            ⟨(some 33), none, .arith .leq (t 28) (t 32)⟩])
          (.cond (t 33)
            (.seq (.draw [⟨(some 34), none, .mov (t 6)⟩,
              ⟨(some 35), none, .nilCheck (t 34)⟩,
              ⟨(some 36), none, .fieldAddr 2 (t 35)⟩,
              ⟨(some 37), none, .load none (t 36)⟩,
              ⟨(some 38), none, .arith .eql (t 37) (v (.int .u32 1))⟩,
              ⟨(some 39), none, .mov (t 38)⟩,
              ⟨(some 40), some (39, false), .mov (t 1)⟩,
              ⟨(some 41), some (39, false), .mov (t 6)⟩,
              ⟨(some 42), some (39, false), .nilCheck (t 41)⟩,
              ⟨(some 43), some (39, false), .fieldAddr 0 (t 42)⟩,
              ⟨(some 44), some (39, false), .load none (t 43)⟩,
              ⟨(some 45), some (39, false), .arith .sub (t 40) (t 44)⟩,
              ⟨(some 46), some (39, false), .mov (t 6)⟩,
              ⟨(some 47), some (39, false), .nilCheck (t 46)⟩,
              ⟨(some 48), some (39, false), .fieldAddr 2 (t 47)⟩,
              ⟨(some 49), some (39, false), .load none (t 48)⟩]
              [⟨(some 50), some (39, false), .arith .rem (t 45) (t 49)⟩,
              ⟨(some 51), some (39, false), .arith .eql (t 50) (v (.int .u32 0))⟩,
              ⟨(some 52), none, .pick (t 39) (v (.bool true)) (t 51)⟩,
              ⟨(some 4), none, .mov (t 52)⟩])
            .ret)
            .skip))))))
        (.ops [⟨(some 53), none, .arith .add (t 16) (v (I 1))⟩,
          ⟨(some 16), none, .mov (t 53)⟩])))))))
    (.seq (.ops [⟨(some 4), none, .mov (v (.bool false))⟩])
    .ret))
    .skip))
  (.seq (.ops [⟨(some 7), none, .mov (v (I 0))⟩])
  (.seq (.ops [⟨(some 54), none, .mov (t 0)⟩,
    ⟨(some 55), none, .lenSl (t 54)⟩,
    ⟨(some 8), none, .mov (t 55)⟩])
  (.seq (.block 2
    (.loop
      (.seq (.seq (.ops [⟨(some 56), none, .mov (t 7)⟩,
        ⟨(some 57), none, .mov (t 8)⟩,
        ⟨(some 58), none, .arith .lss (t 56) (t 57)⟩])
      (.cond (t 58)
        .skip
        (.exit 2)))
      (.block 3
        (.seq (.ops [⟨(some 59), none, .mov (t 7)⟩,
          ⟨(some 60), none, .mov (t 8)⟩,
          ⟨(some 61), none, .arith .add (t 59) (t 60)⟩,
          ⟨(some 62), none, .toInt .u64 (t 61)⟩,
          ⟨(some 63), none, .arith .shr (t 62) (v (.int .u64 1))⟩,
          ⟨(some 64), none, .toInt .i64 (t 63)⟩,
          ⟨(some 9), none, .mov (t 64)⟩])
        (.seq (.ops [⟨(some 65), none, .mov (t 0)⟩,
          ⟨(some 66), none, .mov (t 9)⟩,
          ⟨(some 67), none, .indexAddr 3 (t 65) (t 66)⟩,
          ⟨(some 68), none, .load (some 3) (t 67)⟩,
          ⟨(some 10), none, .box 167 (v (.agg #[(.int .u32 0), (.int .u32 0), (.int .u32 0)]))⟩,
          ⟨none, none, .store 3 (t 10) (t 68)⟩])
        (.seq (.seq (.ops [⟨(some 69), none, .fieldAddr 0 (t 10)⟩,
          ⟨(some 70), none, .load none (t 69)⟩,
          ⟨(some 71), none, .mov (t 1)⟩,
          ⟨(some 72), none, .arith .leq (t 70) (t 71)⟩,
          ⟨(some 73), none, .mov (t 72)⟩,
          ⟨(some 74), some (73, true), .mov (t 1)⟩,
          ⟨(some 75), some (73, true), .fieldAddr 1 (t 10)⟩,
          ⟨(some 76), some (73, true), .load none (t 75)⟩,
          ⟨(some 77), some (73, true), .arith .leq (t 74) (t 76)⟩,
          ⟨(some 78), none, .pick (t 73) (t 77) (v (.bool false))⟩])
        (.cond (t 78)
          (.seq (.ops [⟨(some 79), none, .fieldAddr 2 (t 10)⟩,
            ⟨(some 80), none, .load none (t 79)⟩,
            ⟨(some 81), none, .arith .eql (t 80) (v (.int .u32 1))⟩,
            ⟨(some 82), none, .mov (t 81)⟩,
            ⟨(some 83), some (82, false), .mov (t 1)⟩,
            ⟨(some 84), some (82, false), .fieldAddr 0 (t 10)⟩,
            ⟨(some 85), some (82, false), .load none (t 84)⟩,
            ⟨(some 86), some (82, false), .arith .sub (t 83) (t 85)⟩,
            ⟨(some 87), some (82, false), .fieldAddr 2 (t 10)⟩,
            ⟨(some 88), some (82, false), .load none (t 87)⟩,
            ⟨(some 89), some (82, false), .arith .rem (t 86) (t 88)⟩,
            ⟨(some 90), some (82, false), .arith .eql (t 89) (v (.int .u32 0))⟩,
            ⟨(some 91), none, .pick (t 82) (v (.bool true)) (t 90)⟩,
            ⟨(some 4), none, .mov (t 91)⟩])
          .ret)
          .skip))
        (.seq (.ops [⟨(some 92), none, .mov (t 1)⟩,
          ⟨(some 93), none, .fieldAddr 0 (t 10)⟩,
          ⟨(some 94), none, .load none (t 93)⟩,
          ⟨(some 95), none, .arith .lss (t 92) (t 94)⟩])
        (.cond (t 95)
          (.ops [⟨(some 96), none, .mov (t 9)⟩,
            ⟨(some 8), none, .mov (t 96)⟩])
          (.ops [⟨(some 97), none, .mov (t 9)⟩,
            ⟨(some 98), none, .arith .add (t 97) (v (I 1))⟩,
            ⟨(some 7), none, .mov (t 98)⟩]))))))))))
  (.seq (.ops [⟨(some 4), none, .mov (v (.bool false))⟩])
  .ret))))))⟩

/- internal/stringslite.IndexByte -/
def ir115 : IFunc := ⟨8, [.tmp 4],
  (.seq (.ops [⟨(some 4), none, .mov (v (I 0))⟩])
  (.seq (.ops [⟨(some 5), none, .mov (t 0)⟩,
    ⟨(some 6), none, .mov (t 1)⟩,
    ⟨(some 7), none, .call (v (Fn 119)) [(t 5), (t 6)]⟩,
    ⟨(some 4), none, .mov (t 7)⟩])
  .ret))⟩

/- internal/bytealg.Cutover -/
def ir117 : IFunc := ⟨6, [.tmp 2],
  (.seq (.ops [⟨(some 2), none, .mov (v (I 0))⟩])
  (.seq (.ops [⟨(some 3), none, .mov (t 0)⟩,
    ⟨(some 4), none, .arith .add (t 3) (v (I 16))⟩,
    ⟨(some 5), none, .arith .quo (t 4) (v (I 8))⟩,
    ⟨(some 2), none, .mov (t 5)⟩])
  .ret))⟩

/- internal/bytealg.IndexRabinKarp[string] -/
def ir118 : IFunc := ⟨81, [.tmp 4],
  (.seq (.ops [⟨(some 4), none, .mov (v (I 0))⟩])
  (.seq (.ops [⟨(some 12), none, .mov (t 1)⟩,
    ⟨(some 13), none, .call (v (Fn 120)) [(t 12)]⟩,
    ⟨(some 11), none, .mov (t 13)⟩,
    ⟨(some 14), none, .extract (t 11) 0⟩,
    ⟨(some 15), none, .extract (t 11) 1⟩,
    ⟨(some 5), none, .mov (t 14)⟩,
    ⟨(some 6), none, .mov (t 15)⟩])
  (.seq (.ops [⟨(some 16), none, .mov (t 1)⟩,
    ⟨(some 17), none, .lenStr (t 16)⟩,
    ⟨(some 7), none, .mov (t 17)⟩])
  (.seq (.ops [⟨(some 8), none, .mov (v (.int .u32 0))⟩])
  (.seq (.seq (.ops [⟨(some 9), none, .mov (v (I 0))⟩])
  (.block 0
    (.loop
      (.seq (.seq (.ops [⟨(some 18), none, .mov (t 9)⟩,
        ⟨(some 19), none, .mov (t 7)⟩,
        ⟨(some 20), none, .arith .lss (t 18) (t 19)⟩])
      (.cond (t 20)
        .skip
        (.exit 0)))
      (.seq (.block 1
        (.ops [⟨(some 23), none, .mov (t 8)⟩,
          ⟨(some 24), none, .arith .mul (t 23) (v (.int .u32 16777619))⟩,
          ⟨(some 25), none, .mov (t 0)⟩,
          ⟨(some 26), none, .mov (t 9)⟩,
          ⟨(some 27), none, .indexStr (t 25) (t 26)⟩,
          ⟨(some 28), none, .toInt .u32 (t 27)⟩,
          ⟨(some 29), none, .arith .add (t 24) (t 28)⟩,
          ⟨(some 8), none, .mov (t 29)⟩]))
      (.ops [⟨(some 21), none, .mov (t 9)⟩,
        ⟨(some 22), none, .arith .add (t 21) (v (I 1))⟩,
        ⟨(some 9), none, .mov (t 22)⟩]))))))
  (.seq (.seq (.ops [⟨(some 30), none, .mov (t 8)⟩,
    ⟨(some 31), none, .mov (t 5)⟩,
    ⟨(some 32), none, .arith .eql (t 30) (t 31)⟩,
    ⟨(some 33), none, .mov (t 32)⟩,
    ⟨(some 34), some (33, true), .mov (t 0)⟩,
    ⟨(some 35), some (33, true), .mov (t 7)⟩,
    ⟨(some 36), some (33, true), .sliceStr (t 34) none (some (t 35))⟩,
    ⟨(some 37), some (33, true), .mov (t 1)⟩,
    ⟨(some 38), some (33, true), .arith .eql (t 36) (t 37)⟩,
    ⟨(some 39), none, .pick (t 33) (t 38) (v (.bool false))⟩])
  (.cond (t 39)
    (.seq (.ops [⟨(some 4), none, .mov (v (I 0))⟩])
    .ret)
    .skip))
  (.seq (.seq (.ops [⟨(some 40), none, .mov (t 7)⟩,
    ⟨(some 10), none, .mov (t 40)⟩])
  (.block 2
    (.loop
      (.seq (.seq (.ops [⟨(some 41), none, .mov (t 10)⟩,
        ⟨(some 42), none, .mov (t 0)⟩,
        ⟨(some 43), none, .lenStr (t 42)⟩,
        ⟨(some 44), none, .arith .lss (t 41) (t 43)⟩])
      (.cond (t 44)
        .skip
        (.exit 2)))
      (.block 3
        (.seq (.ops [⟨(some 45), none, .mov (t 8)⟩,
          ⟨(some 46), none, .arith .mul (t 45) (v (.int .u32 16777619))⟩,
          ⟨(some 8), none, .mov (t 46)⟩])
        (.seq (.ops [⟨(some 47), none, .mov (t 8)⟩,
          ⟨(some 48), none, .mov (t 0)⟩,
          ⟨(some 49), none, .mov (t 10)⟩,
          ⟨(some 50), none, .indexStr (t 48) (t 49)⟩,
          ⟨(some 51), none, .toInt .u32 (t 50)⟩,
          ⟨(some 52), none, .arith .add (t 47) (t 51)⟩,
          ⟨(some 8), none, .mov (t 52)⟩])
        (.seq (.ops [⟨(some 53), none, .mov (t 8)⟩,
          ⟨(some 54), none, .mov (t 6)⟩,
          ⟨(some 55), none, .mov (t 0)⟩,
          ⟨(some 56), none, .mov (t 10)⟩,
          ⟨(some 57), none, .mov (t 7)⟩,
          ⟨(some 58), none, .arith .sub (t 56) (t 57)⟩,
          ⟨(some 59), none, .indexStr (t 55) (t 58)⟩,
          ⟨(some 60), none, .toInt .u32 (t 59)⟩,
          ⟨(some 61), none, .arith .mul (t 54) (t 60)⟩,
          ⟨(some 62), none, .arith .sub (t 53) (t 61)⟩,
          ⟨(some 8), none, .mov (t 62)⟩])
        (.seq (.ops [⟨(some 63), none, .mov (t 10)⟩,
          ⟨(some 64), none, .arith .add (t 63) (v (I 1))⟩,
          ⟨(some 10), none, .mov (t 64)⟩])
        (.seq (.ops [⟨(some 65), none, .mov (t 8)⟩,
          ⟨(some 66), none, .mov (t 5)⟩,
          ⟨(some 67), none, .arith .eql (t 65) (t 66)⟩,
          ⟨(some 68), none, .mov (t 67)⟩,
          ⟨(some 69), some (68, true), .mov (t 0)⟩,
          ⟨(some 70), some (68, true), .mov (t 10)⟩,
          ⟨(some 71), some (68, true), .mov (t 7)⟩,
          ⟨(some 72), some (68, true), .arith .sub (t 70) (t 71)⟩,
          ⟨(some 73), some (68, true), .mov (t 10)⟩,
          ⟨(some 74), some (68, true), .sliceStr (t 69) (some (t 72)) (some (t 73))⟩,
          ⟨(some 75), some (68, true), .mov (t 1)⟩,
          ⟨(some 76), some (68, true), .arith .eql (t 74) (t 75)⟩,
          ⟨(some 77), none, .pick (t 68) (t 76) (v (.bool false))⟩])
        (.cond (t 77)
          (.seq (.ops [⟨(some 78), none, .mov (t 10)⟩,
            ⟨(some 79), none, .mov (t 7)⟩,
            ⟨(some 80), none, .arith .sub (t 78) (t 79)⟩,
            ⟨(some 4), none, .mov (t 80)⟩])
          .ret)
          .skip)))))))))))
  (.seq (.ops [⟨(some 4), none, .mov (v (I (-1)))⟩])
  .ret))))))))⟩

/- internal/bytealg.hashStr[string] -/
def ir120 : IFunc := ⟨39, [.tmp 2, .tmp 3],
  (.seq (.ops [⟨(some 2), none, .mov (v (.int .u32 0))⟩,
    ⟨(some 3), none, .mov (v (.int .u32 0))⟩])
  (.seq (.ops [⟨(some 4), none, .mov (v (.int .u32 0))⟩])
  (.seq (.seq (.ops [⟨(some 5), none, .mov (v (I 0))⟩])
  (.block 0
    (.loop
      (.seq (.seq (.ops [⟨(some 9), none, .mov (t 5)⟩,
        ⟨(some 10), none, .mov (t 0)⟩,
        ⟨(some 11), none, .lenStr (t 10)⟩,
        ⟨(some 12), none, .arith .lss (t 9) (t 11)⟩])
      (.cond (t 12)
        .skip
        (.exit 0)))
      (.seq (.block 1
        (.ops [⟨(some 15), none, .mov (t 4)⟩,
          ⟨(some 16), none, .arith .mul (t 15) (v (.int .u32 16777619))⟩,
          ⟨(some 17), none, .mov (t 0)⟩,
          ⟨(some 18), none, .mov (t 5)⟩,
          ⟨(some 19), none, .indexStr (t 17) (t 18)⟩,
          ⟨(some 20), none, .toInt .u32 (t 19)⟩,
          ⟨(some 21), none, .arith .add (t 16) (t 20)⟩,
          ⟨(some 4), none, .mov (t 21)⟩]))
      (.ops [⟨(some 13), none, .mov (t 5)⟩,
        ⟨(some 14), none, .arith .add (t 13) (v (I 1))⟩,
        ⟨(some 5), none, .mov (t 14)⟩]))))))
  (.seq (.ops [⟨(some 6), none, .mov (v (.int .u32 1))⟩,
    ⟨(some 7), none, .mov (v (.int .u32 16777619))⟩])
  (.seq (.seq (.ops [⟨(some 22), none, .mov (t 0)⟩,
    ⟨(some 23), none, .lenStr (t 22)⟩,
    ⟨(some 8), none, .mov (t 23)⟩])
  (.block 2
    (.loop
      (.seq (.seq (.ops [⟨(some 24), none, .mov (t 8)⟩,
        ⟨(some 25), none, .arith .gtr (t 24) (v (I 0))⟩])
      (.cond (t 25)
        .skip
        (.exit 2)))
      (.seq (.block 3
        (.seq (.seq (.ops [⟨(some 28), none, .mov (t 8)⟩,
          ⟨(some 29), none, .arith .and (t 28) (v (I 1))⟩,
          ⟨(some 30), none, .arith .neq (t 29) (v (I 0))⟩])
        (.cond (t 30)
          (.ops [⟨(some 31), none, .mov (t 6)⟩,
            ⟨(some 32), none, .mov (t 7)⟩,
            ⟨(some 33), none, .arith .mul (t 31) (t 32)⟩,
            ⟨(some 6), none, .mov (t 33)⟩])
          .skip))
        (.ops [⟨(some 34), none, .mov (t 7)⟩,
          ⟨(some 35), none, .mov (t 7)⟩,
          ⟨(some 36), none, .arith .mul (t 34) (t 35)⟩,
          ⟨(some 7), none, .mov (t 36)⟩])))
      (.ops [⟨(some 26), none, .mov (t 8)⟩,
        ⟨(some 27), none, .arith .shr (t 26) (v (.int .u64 1))⟩,
        ⟨(some 8), none, .mov (t 27)⟩]))))))
  (.seq (.ops [⟨(some 37), none, .mov (t 4)⟩,
    ⟨(some 38), none, .mov (t 6)⟩,
    ⟨(some 2), none, .mov (t 37)⟩,
    ⟨(some 3), none, .mov (t 38)⟩])
  .ret))))))⟩

end Go.Den.IrD
/- The seat's functions, part A: comparisons and searches of lists. -/
namespace Go.Den
open IrD
attribute [local irreducible] T.get T.set
/-- the functions of the seat -/
def FD : FuncId → Option IFunc
  | 3 => some ir3 | 4 => some ir4 | 6 => some ir6 | 7 => some ir7 | 9 => some ir9 | 10 => some ir10 | 11 => some ir11 | 12 => some ir12 | 13 => some ir13 | 14 => some ir14
  | 15 => some ir15 | 16 => some ir16 | 17 => some ir17 | 18 => some ir18 | 19 => some ir19 | 20 => some ir20 | 21 => some ir21 | 22 => some ir22 | 29 => some ir29 | 31 => some ir31
  | 32 => some ir32 | 33 => some ir33 | 34 => some ir34 | 35 => some ir35 | 36 => some ir36 | 37 => some ir37 | 38 => some ir38 | 39 => some ir39 | 40 => some ir40 | 61 => some ir61 | 62 => some ir62
  | _ => none
def XN : Ext := fun _ => none
/-- the variable's row -/
def SpaceRow (H : AH) : Prop := ∃ ro thr tip, H.get glSpace = some (.cells spaceCells glSpaceT ro true glSpace thr tip) ∧ thr ≤ glSpace
open Classical in
/-- the check of an example: its contract -/
noncomputable def xAwake : List Value → AH → Option (Out × AH)
  | [], H => if SpaceRow H then some (.ret (.bool true), H) else none
  | _, _ => none
noncomputable def XA : Ext := fun f => if f = 8 then some xAwake else none
abbrev PPd := PP FD XA XN
/-- lists that are not too long -/
abbrev big (n : Nat) : Prop := n ≤ 4611686018427387904
theorem wrap_inc {i n : Nat} (h : i < n) (hn : big n) : IntKind.wrap .i64 ((i : Int) + 1) = ((i + 1 : Nat) : Int) := by
  rw [wrap64 (by omega) (by omega)]; simp

theorem take_step {l : List Int} {i : Nat} {n : Int} (h : i < l.length) (h1 : n ∉ l.take i) (h2 : ¬ l[i] = n) : n ∉ l.take (i + 1) := by
  rw [List.take_succ_eq_append_getElem h]
  simp only [List.mem_append, List.mem_singleton, not_or]
  exact ⟨h1, fun e => h2 e.symm⟩

theorem has_ok {t : TypeId} {l : List Int} {n : Int} (hl : big l.length) : PPd (.fn 35 [] []) [ints t l, pin n] (pbool (decide (n ∈ l))) := by
  refine PP_code rfl rfl rfl (by simp) (by simp) (by simp) (PW_ok _ ?_)
  simp [ir35]
  refine PC_loop0 (fun m E L => ∃ i, i + m = l.length ∧ n ∉ l.take i ∧ L = [] ∧ E.get 0 = some (ints t l) ∧ E.get 1 = some (pin n) ∧ E.get 5 = some (pin i)) ?_ (k := l.length) ⟨0, by simp⟩
  rintro m E L ⟨i, him, hc, rfl, e0, e1, e5⟩
  simp [e0, e1, e5, ints]
  refine ⟨fun h => ?_, fun h => ?_⟩
  · simp [e0, e1, e5, cut1 h, h, wrap_inc h hl]
    refine ⟨fun h1 => ?_, fun h1 => ?_⟩
    · exact .decT (h1 ▸ List.getElem_mem h)
    · exact ⟨m - 1, by omega, i + 1, by omega, take_step h hc h1, by simp [ints]⟩
  · rw [List.take_of_length_le h] at hc
    simp [hc]; exact .same rfl

/-! ### slices.Equal -/
theorem eqInts_ok {t t' : TypeId} {a b : List Int} (hb : big a.length) : PPd (.fn 13 [] []) [ints t a, ints t' b] (pbool (decide (a = b))) := by
  refine PP_code rfl rfl rfl (by simp) (by simp) (by simp) (PW_ok _ ?_)
  simp [ir13, ints]
  refine ⟨fun h => ?_, fun h => ?_⟩
  · exact .decF (fun e => h (by rw [e]))
  · refine PC_loop0 (fun m E L => ∃ i, i + m = a.length ∧ a.take i = b.take i ∧ L = [] ∧ E.get 0 = some (ints t a) ∧ E.get 1 = some (ints t' b) ∧ E.get 12 = some (pin a.length) ∧ E.get 13 = some (pin i)) ?_ (k := a.length) ⟨0, by simp [ints]⟩
    rintro m E L ⟨i, him, hc, rfl, e0, e1, e12, e13⟩
    simp [e0, e1, e12, e13]
    refine ⟨fun hlt => ?_, fun hge => ?_⟩
    · have hlt' : i < b.length := by omega
      simp [e0, e1, e12, e13, ints, cut1 hlt, cut1 hlt', hlt, hlt', wrap_inc hlt hb]
      refine ⟨fun h1 => ?_, fun h1 => ?_⟩
      · exact .decF (fun e => h1 (by simp [e]))
      · refine ⟨m - 1, by omega, i + 1, by omega, ?_, by simp⟩
        rw [List.take_succ_eq_append_getElem hlt, List.take_succ_eq_append_getElem hlt', hc, h1]
    · rw [List.take_of_length_le hge, List.take_of_length_le (by omega)] at hc
      exact .decT hc
/-- truth values -/
def blist (t : TypeId) (l : List Bool) : PV := .fz t l.length (l.map pbool)
@[simp] theorem blist_noId {t : TypeId} {l : List Bool} : noId (blist t l) = true := by simp only [blist, noId]; exact noIdL_map fun _ _ => rfl
theorem eqBools_ok {t t' : TypeId} {a b : List Bool} (hb : big a.length) : PPd (.fn 14 [] []) [blist t a, blist t' b] (pbool (decide (a = b))) := by
  refine PP_code rfl rfl rfl (by simp) (by simp) (by simp) (PW_ok _ ?_)
  simp [ir14, blist]
  refine ⟨fun h => ?_, fun h => ?_⟩
  · exact .decF (fun e => h (by rw [e]))
  · refine PC_loop0 (fun m E L => ∃ i, i + m = a.length ∧ a.take i = b.take i ∧ L = [] ∧ E.get 0 = some (blist t a) ∧ E.get 1 = some (blist t' b) ∧ E.get 12 = some (pin a.length) ∧ E.get 13 = some (pin i)) ?_ (k := a.length) ⟨0, by simp [blist]⟩
    rintro m E L ⟨i, him, hc, rfl, e0, e1, e12, e13⟩
    simp [e0, e1, e12, e13]
    refine ⟨fun hlt => ?_, fun hge => ?_⟩
    · have hlt' : i < b.length := by omega
      simp [e0, e1, e12, e13, blist, cut1 hlt, cut1 hlt', hlt, hlt', wrap_inc hlt hb]
      refine ⟨fun h1 => ?_, fun h1 => ?_⟩
      · exact .decF (fun e => by subst e; simp at h1)
      · refine ⟨m - 1, by omega, i + 1, by omega, ?_, by simp⟩
        rw [List.take_succ_eq_append_getElem hlt, List.take_succ_eq_append_getElem hlt', hc, h1]
    · rw [List.take_of_length_le hge, List.take_of_length_le (by omega)] at hc
      exact .decT hc

theorem put_ok_has {t : TypeId} {l : List Int} {n : Int} (hl : big l.length) (h : n ∈ l) : PPd (.fn 34 [] []) [ints t l, pin n] (ints t l) := by
  refine PP_code rfl rfl rfl (by simp) (by simp) (by simp) (PW_ok _ ?_)
  simp [ir34]
  refine (has_ok hl).runk ?_
  simp [h]
  exact .same (by simp)
end Go.Den
/- The seat's functions, part B: Put. -/
namespace Go.Den
open IrD
attribute [local irreducible] T.get T.set
/-- an ascending list with a number -/
def putL (l : List Int) (n : Int) : List Int := if n ∈ l then l else l.takeWhile (· < n) ++ n :: l.dropWhile (· < n)

theorem takeWhile_at {l : List Int} {n : Int} {i : Nat} (h1 : ∀ x ∈ l.take i, x < n) (hi : i ≤ l.length) (h2 : ∀ h : i < l.length, ¬ l[i] < n) : l.takeWhile (· < n) = l.take i ∧ l.dropWhile (· < n) = l.drop i := by
  induction l generalizing i with
  | nil => simp at hi; subst hi; simp
  | cons a l ih =>
    cases i with
    | zero =>
      have := h2 (by simp)
      simp only [List.getElem_cons_zero] at this
      simp [List.takeWhile_cons, List.dropWhile_cons, this]
    | succ i =>
      have ha : a < n := h1 a (by simp)
      obtain ⟨c1, c2⟩ := ih (i := i) (fun x hx => h1 x (by simp [hx])) (by simp at hi; omega) (fun h => by have := h2 (by simpa using h); simpa using this)
      simp [List.takeWhile_cons, List.dropWhile_cons, ha, c1, c2]

theorem roomy_of {n b : Nat} (h : n ≤ 1000000000) (hb : b ≤ 10000) : roomy n b := by
  unfold roomy
  exact Nat.le_trans (Nat.mul_le_mul (show 2 * n + 1000 ≤ 2000001000 by omega) (show b + 1 ≤ 10001 by omega)) (by decide)

set_option maxHeartbeats 1000000 in
theorem put_ok {l : List Int} {n : Int} (hl : l.length ≤ 1000000) : PPd (.fn 34 [] []) [ints 3 l, pin n] (ints 3 (putL l n)) := by
  have hb : big l.length := by unfold big; omega
  refine PP_code rfl rfl rfl (by simp) (by simp) (by simp) (PW_ok _ ?_)
  simp [ir34]
  refine (has_ok hb).runk ?_
  by_cases hn : n ∈ l
  · simp [hn, putL]
    exact .same (by simp)
  · simp [hn]
    refine PC_loop0 (fun m E L => ∃ i, i + m = l.length ∧ (∀ x ∈ l.take i, x < n) ∧ L = [] ∧ E.get 0 = some (ints 3 l) ∧ E.get 1 = some (pin n) ∧ E.get 5 = some (pin i)) ?_ (k := l.length) ⟨0, by simp⟩
    rintro m E L ⟨i, him, hc, rfl, e0, e1, e5⟩
    have r0 : roomy 1 8 := roomy_of (by omega) (by omega)
    by_cases hlt : i < l.length
    · have r1 : roomy i 8 := roomy_of (by omega) (by omega)
      have r2 : roomy (i + 1) 8 := roomy_of (by omega) (by omega)
      have r3 : roomy (i + 1 + (l.length - i)) 8 := roomy_of (by omega) (by omega)
      have hle : i ≤ l.length := by omega
      simp [e0, e1, e5, ints, hlt, cut1 hlt, cut_take, cut_drop (show i + (l.length - i) = l.length by omega), hle, r0, r1, r2, r3, wrap_inc hlt hb]
      refine ⟨fun h1 => ⟨m - 1, by omega, i + 1, by omega, fun x hx => ?_, by simp⟩, fun h1 => ?_⟩
      · rw [List.take_succ_eq_append_getElem hlt] at hx
        rcases List.mem_append.1 hx with hx | hx
        · exact hc x hx
        · simp at hx; rw [hx]; exact h1
      · obtain ⟨c1, c2⟩ := takeWhile_at hc hle (fun _ => by omega)
        refine Vw.frz rfl (by simp) (by simp) ?_
        simp [putL, hn, c1, c2]
        omega
    · obtain rfl : i = l.length := by omega
      have r1 : roomy l.length 8 := roomy_of (by omega) (by omega)
      have r2 : roomy (l.length + 1) 8 := roomy_of (by omega) (by omega)
      simp [e0, e1, e5, ints, r0, r1, r2, cut_take]
      obtain ⟨c1, c2⟩ := takeWhile_at hc (Nat.le_refl _) (fun h => absurd h (Nat.lt_irrefl _))
      refine Vw.frz rfl (by simp) (by simp) ?_
      simp [putL, hn, c1, c2]
end Go.Den
/- The seat's functions, part C: graphs; the blocks that follow one. -/
namespace Go.Den
open IrD
attribute [local irreducible] T.get T.set
structure Blk where
  src : Int
  to : Int
  next : List Int
def encB (b : Blk) : List PV := [pin b.src, pin b.to, ints 3 b.next]
@[simp] theorem encB_len (b : Blk) : (encB b).length = 3 := rfl
@[simp] theorem encB_nl (b : Blk) : allNl (encB b) := by simp [encB, ints]
@[simp] theorem encB_noId (b : Blk) : noIdL (encB b) = true := by simp [encB]
/-- a graph -/
def blks (t : TypeId) (bs : List Blk) : PV := recs t encB bs
@[simp] theorem blks_noId {t : TypeId} {bs : List Blk} : noId (blks t bs) = true := by simp [blks, recs]
/-- graphs that are not too large -/
structure OkG (bs : List Blk) : Prop where
  len : bs.length ≤ 1000
  next : ∀ b ∈ bs, b.next.length ≤ 1000
def inG (n : Nat) (x : Int) : Bool := decide (0 ≤ x) && decide (x < n)

theorem cutB {bs : List Blk} {i : Nat} (h : i < bs.length) : cut (bs.flatMap encB) (i * 3) 3 = [pin bs[i].src, pin bs[i].to, ints 3 bs[i].next] := cutk encB_len h

theorem following_ok {t : TypeId} {bs : List Blk} {k : Int} {L : List LObj} {K : PV → List LObj → Prop}
    (h : K (.fn 61 [] [.ptr L.length 0, .ptr (L.length + 1) 0]) (L ++ [.row 29 [blks t bs], .row 3 [pin k]])) : PF FD XA XN false (.fn 32 [] []) [blks t bs, pin k] L K := by
  refine PF_code0 rfl rfl rfl (PW_ok _ ?_)
  simp [ir32, blks, recs]
  simpa [blks, recs] using h

/-- the closure of `following`, run with a function that takes the numbers -/
theorem following_run {t : TypeId} {b1 b2 y kk : Nat} {bs : List Blk} {J : Nat → List LObj → Prop} {K : List LObj → Prop} {L : List LObj} (hok : OkG bs) (hkk : kk < bs.length)
    (hG : ∀ i L, J i L → prow L b1 = some (29, [blks t bs]) ∧ prow L b2 = some (3, [pin kk]))
    (hskip : ∀ i (h : i < bs[kk].next.length) L, J i L → inG bs.length bs[kk].next[i] = false → J (i + 1) L)
    (hcall : ∀ i (h : i < bs[kk].next.length) L, J i L → inG bs.length bs[kk].next[i] = true → PF FD XA XN false (.yl y) [pin bs[kk].next[i]] L (fun v L' => (v = pbool true ∧ J (i + 1) L') ∨ (v = pbool false ∧ K L')))
    (hend : ∀ L, J bs[kk].next.length L → K L) (hJ : J 0 L) :
    PF FD XA XN false (.fn 61 [] [.ptr b1 0, .ptr b2 0]) [.yl y] L (fun _ L' => K L') := by
  have hb : big bs[kk].next.length := by have := hok.next _ (List.getElem_mem hkk); unfold big; omega
  refine PF_code0 rfl rfl rfl (PW_ok _ ?_)
  obtain ⟨g1, g2⟩ := hG 0 L hJ
  replace g1 := prow_some g1
  replace g2 := prow_some g2
  simp [ir61, g1, g2, blks, recs, hkk, cutB hkk, ints]
  refine PC_loop0 (fun m E L => ∃ i, i + m = bs[kk].next.length ∧ J i L ∧ E.get 0 = some (.yl y) ∧ E.get 1 = some (.ptr b1 0) ∧ E.get 10 = some (ints 3 bs[kk].next) ∧ E.get 11 = some (pin bs[kk].next.length) ∧ E.get 12 = some (pin i)) ?_ (k := bs[kk].next.length) ⟨0, by simp [hJ, ints]⟩
  rintro m E L ⟨i, him, hJ, e0, e1, e10, e11, e12⟩
  obtain ⟨g1, g2⟩ := hG i L hJ
  replace g1 := prow_some g1
  replace g2 := prow_some g2
  by_cases hlt : i < bs[kk].next.length
  · by_cases hin : inG bs.length bs[kk].next[i] = true
    · have hin' := hin
      simp only [inG, Bool.and_eq_true, decide_eq_true_eq] at hin'
      simp [e0, e1, e10, e11, e12, hlt, ints, cut1 hlt, g1, blks, recs, hin'.1, hin'.2]
      refine (hcall i hlt L hJ hin).mono ?_
      rintro v L' (⟨rfl, hj⟩ | ⟨rfl, hk⟩)
      · simp [e0, e1, e10, e11, e12, wrap_inc hlt hb]
        exact ⟨m - 1, by omega, i + 1, by omega, hj, by simp [ints]⟩
      · simp [e0, e1, e10, e11, e12]
        exact hk
    · have hs := hskip i hlt L hJ (by simpa using hin)
      have hin' : ¬ (0 ≤ bs[kk].next[i] ∧ bs[kk].next[i] < (bs.length : Int)) := fun hh => hin (by simp [inG, hh.1, hh.2])
      by_cases h0 : 0 ≤ bs[kk].next[i]
      · have h1 : ¬ bs[kk].next[i] < (bs.length : Int) := fun h1 => hin' ⟨h0, h1⟩
        simp [e0, e1, e10, e11, e12, hlt, ints, cut1 hlt, g1, blks, recs, h0, h1, wrap_inc hlt hb]
        exact ⟨m - 1, by omega, i + 1, by omega, hs, by simp [ints]⟩
      · simp [e0, e1, e10, e11, e12, hlt, ints, cut1 hlt, g1, blks, recs, h0, wrap_inc hlt hb]
        exact ⟨m - 1, by omega, i + 1, by omega, hs, by simp [ints]⟩
  · simp [e11, e12, hlt]
    exact hend _ (show i = bs[kk].next.length by omega ▸ hJ)
end Go.Den
/- The plain law of graphs. -/
namespace Go.Den
/-- the numbers that a number leads to, within the graph -/
def succs (bs : List Blk) (k : Nat) : List Int := ((bs[k]?.map (·.next)).getD []).filter (inG bs.length)
inductive Reach (bs : List Blk) (no : Int) : Nat → Prop
  | zero : bs ≠ [] → no ≠ 0 → Reach bs no 0
  | step {i : Nat} {x : Int} : Reach bs no i → x ∈ succs bs i → x ≠ no → Reach bs no x.toNat

theorem succs_mem {bs : List Blk} {k : Nat} {x : Int} (h : x ∈ succs bs k) : 0 ≤ x ∧ x < (bs.length : Int) ∧ ∃ h : k < bs.length, x ∈ bs[k].next := by
  unfold succs at h
  rw [List.mem_filter] at h
  obtain ⟨h1, h2⟩ := h
  simp only [inG, Bool.and_eq_true, decide_eq_true_eq] at h2
  by_cases hk : k < bs.length
  · refine ⟨h2.1, h2.2, hk, ?_⟩
    simpa [hk] using h1
  · simp [hk] at h1
theorem mem_succs {bs : List Blk} {k : Nat} {x : Int} (hk : k < bs.length) (h : x ∈ bs[k].next) (h0 : inG bs.length x = true) : x ∈ succs bs k := by
  unfold succs
  rw [List.mem_filter]
  exact ⟨by simpa [hk] using h, h0⟩
theorem Reach.lt {bs : List Blk} {no : Int} {i : Nat} (h : Reach bs no i) : i < bs.length := by
  cases h with
  | zero h => exact List.length_pos_iff.2 h
  | step _ h _ => have := succs_mem h; omega

/-- a marked set that is closed but for a list of numbers still to be walked -/
structure Marked (bs : List Blk) (no : Int) (f : List Bool) (todo : List Nat) : Prop where
  len : f.length = bs.length
  zero : f[0]? = some true
  sound : ∀ i : Nat, f[i]? = some true → Reach bs no i
  marked : ∀ i ∈ todo, f[i]? = some true
  closed : ∀ i : Nat, f[i]? = some true → i ∉ todo → ∀ x ∈ succs bs i, x ≠ no → f[x.toNat]? = some true
open Classical in
noncomputable def reachL (bs : List Blk) (no : Int) : List Bool := (List.range bs.length).map fun i => decide (Reach bs no i)
theorem reachL_len {bs : List Blk} {no : Int} : (reachL bs no).length = bs.length := by simp [reachL]
theorem reachL_get {bs : List Blk} {no : Int} {i : Nat} (h : i < bs.length) : (reachL bs no)[i]? = some true ↔ Reach bs no i := by simp [reachL, h]
theorem reachL_of {bs : List Blk} {no : Int} {f : List Bool} (hl : f.length = bs.length) (h : ∀ i : Nat, f[i]? = some true ↔ Reach bs no i) : f = reachL bs no := by
  apply List.ext_getElem (by rw [hl, reachL_len])
  intro i a b
  have h1 := h i
  simp only [List.getElem?_eq_getElem a, Option.some.injEq] at h1
  simp only [reachL, List.getElem_map, List.getElem_range]
  by_cases hr : Reach bs no i
  · rw [h1.2 hr]; simp [hr]
  · have : f[i] ≠ true := fun e => hr (h1.1 e)
    simp [hr]; simpa using this
theorem Marked.done {bs : List Blk} {no : Int} {f : List Bool} (h : Marked bs no f []) : f = reachL bs no := by
  refine reachL_of h.len fun i => ⟨h.sound i, fun r => ?_⟩
  induction r with
  | zero => exact h.zero
  | step r hj hn ih => exact h.closed _ ih (by simp) _ hj hn
theorem Marked.start {bs : List Blk} {no : Int} (h : bs ≠ []) (hn : no ≠ 0) : Marked bs no ((List.replicate bs.length false).set 0 true) [0] := by
  have hl : 0 < bs.length := List.length_pos_iff.2 h
  refine ⟨by simp, by simp [hl], fun i hi => ?_, fun i hi => by simp at hi; subst hi; simp [hl], fun i hi hn0 => ?_⟩
  · rw [List.getElem?_set] at hi
    split at hi
    · rename_i h0; subst h0; exact .zero h hn
    · rw [List.getElem?_replicate] at hi; split at hi <;> simp at hi
  · rw [List.getElem?_set] at hi
    split at hi
    · rename_i h0; subst h0; simp at hn0
    · rw [List.getElem?_replicate] at hi; split at hi <;> simp at hi
/-- while the numbers behind k are walked: those of the first i are marked -/
structure Walk (bs : List Blk) (no : Int) (f : List Bool) (todo : List Nat) (k i : Nat) : Prop where
  len : f.length = bs.length
  zero : f[0]? = some true
  sound : ∀ i : Nat, f[i]? = some true → Reach bs no i
  marked : ∀ i ∈ todo, f[i]? = some true
  mrk : f[k]? = some true
  closed : ∀ i : Nat, f[i]? = some true → i ∉ todo → i ≠ k → ∀ x ∈ succs bs i, x ≠ no → f[x.toNat]? = some true
  part : ∀ h : k < bs.length, ∀ x ∈ bs[k].next.take i, inG bs.length x = true → x ≠ no → f[x.toNat]? = some true
theorem Marked.walk {bs : List Blk} {no : Int} {f : List Bool} {todo : List Nat} {k : Nat} (h : Marked bs no f (todo ++ [k])) : Walk bs no f todo k 0 :=
  ⟨h.len, h.zero, h.sound, fun i hi => h.marked i (by simp [hi]), h.marked k (by simp), fun i hi hn hk => h.closed i hi (by simp [hn, hk]), fun _ x hx => by simp at hx⟩
theorem Walk.done {bs : List Blk} {no : Int} {f : List Bool} {todo : List Nat} {k : Nat} (hk : k < bs.length) (h : Walk bs no f todo k bs[k].next.length) : Marked bs no f todo := by
  refine ⟨h.len, h.zero, h.sound, h.marked, fun i hi hn x hx hno => ?_⟩
  by_cases e : i = k
  · subst e
    obtain ⟨a, b, c, d⟩ := succs_mem hx
    exact h.part hk x (by simpa using d) (by simp [inG, a, b]) hno
  · exact h.closed i hi hn e x hx hno
theorem Walk.skip {bs : List Blk} {no : Int} {f : List Bool} {todo : List Nat} {k i : Nat} (hk : k < bs.length) (hi : i < bs[k].next.length) (h : Walk bs no f todo k i) (hs : inG bs.length bs[k].next[i] = true → bs[k].next[i] ≠ no → f[bs[k].next[i].toNat]? = some true) : Walk bs no f todo k (i + 1) := by
  refine ⟨h.len, h.zero, h.sound, h.marked, h.mrk, h.closed, fun _ x hx h1 h2 => ?_⟩
  rw [List.take_succ_eq_append_getElem hi] at hx
  rcases List.mem_append.1 hx with hx | hx
  · exact h.part hk x hx h1 h2
  · simp at hx; subst hx; exact hs h1 h2
theorem Walk.add {bs : List Blk} {no : Int} {f : List Bool} {todo : List Nat} {k i : Nat} (hk : k < bs.length) (hi : i < bs[k].next.length) (h : Walk bs no f todo k i) (hin : inG bs.length bs[k].next[i] = true) (hno : bs[k].next[i] ≠ no) :
    Walk bs no (f.set bs[k].next[i].toNat true) (todo ++ [bs[k].next[i].toNat]) k (i + 1) := by
  have hin' := hin
  simp only [inG, Bool.and_eq_true, decide_eq_true_eq] at hin'
  have hj : bs[k].next[i].toNat < f.length := by rw [h.len]; omega
  generalize hj' : bs[k].next[i].toNat = j at *
  have up : ∀ i : Nat, f[i]? = some true → (f.set j true)[i]? = some true := fun i hi => by
    rw [List.getElem?_set]
    by_cases e : j = i
    · subst e; simp [hj]
    · rw [if_neg e]; exact hi
  have hr : Reach bs no j := hj' ▸ .step (h.sound k h.mrk) (mem_succs hk (List.getElem_mem hi) hin) hno
  refine ⟨by simpa using h.len, up 0 h.zero, fun i hi => ?_, fun i hi => ?_, up k h.mrk, fun i hi hn hne x hx hxn => ?_, fun _ x hx h1 h2 => ?_⟩
  · rw [List.getElem?_set] at hi
    split at hi
    · rename_i e; subst e; exact hr
    · exact h.sound i hi
  · rcases List.mem_append.1 hi with hi | hi
    · exact up i (h.marked i hi)
    · simp at hi; subst hi; simp [hj]
  · simp only [List.mem_append, List.mem_singleton, not_or] at hn
    rw [List.getElem?_set, if_neg (Ne.symm hn.2)] at hi
    exact up _ (h.closed i hi hn.1 hne x hx hxn)
  · rw [List.take_succ_eq_append_getElem hi] at hx
    rcases List.mem_append.1 hx with hx | hx
    · exact up _ (h.part hk x hx h1 h2)
    · simp at hx; subst hx; rw [hj']; simp [hj]
end Go.Den
/- The seat's functions, part D: without. -/
namespace Go.Den
open IrD
attribute [local irreducible] T.get T.set
abbrev pn (i : Nat) : PV := pin (i : Int)
theorem repl_rep (x : Value) (n : Nat) : repl [x] n = List.replicate n x := by
  induction n with
  | zero => rfl
  | succ n ih => simp [repl, ih, List.replicate_succ]
theorem unm_set {f : List Bool} {j : Nat} (h : f[j]? = some false) : (f.set j true).count false + 1 = f.count false := by
  induction f generalizing j with
  | nil => simp at h
  | cons a f ih =>
    cases j with
    | zero => simp at h; subst h; simp
    | succ j =>
      have := ih (j := j) (by simpa using h)
      simp only [List.set_cons_succ, List.count_cons]
      omega

/-- the body of the walk -/
abbrev wBody : ICode := (.block 3
              (.seq (.ops [⟨(some 41), none, .mov (t 8)⟩,
                ⟨(some 42), none, .load none (t 3)⟩,
                ⟨(some 43), none, .arith .neq (t 41) (t 42)⟩,
                ⟨(some 44), none, .mov (t 43)⟩,
                ⟨(some 45), some (44, true), .load none (t 5)⟩,
                ⟨(some 46), some (44, true), .mov (t 8)⟩,
                ⟨(some 47), some (44, true), .indexAddr 1 (t 45) (t 46)⟩,
                ⟨(some 48), some (44, true), .load none (t 47)⟩,
                ⟨(some 49), some (44, true), .un .not (t 48)⟩,
                ⟨(some 50), none, .pick (t 44) (t 49) (v (.bool false))⟩])
              (.cond (t 50)
                (.seq (.ops [⟨(some 51), none, .load none (t 5)⟩,
                  ⟨(some 52), none, .mov (t 8)⟩,
                  ⟨(some 53), none, .indexAddr 1 (t 51) (t 52)⟩,
                  ⟨none, none, .store 1 (t 53) (v (.bool true))⟩])
                (.ops [⟨(some 54), none, .load none (t 6)⟩,
                  ⟨(some 55), none, .mov (t 8)⟩,
                  ⟨(some 56), none, .buildSlice 3 1 [(I 0)] [(0, 1, (t 55))]⟩,
                  ⟨(some 57), none, .append 3 1 8 (t 54) (t 56)⟩,
                  ⟨none, none, .store 1 (t 6) (t 57)⟩]))
                .skip)))
abbrev wAs : ICode := (.ops [⟨(some 8), none, .mov (t 40)⟩])

/-- the state while the numbers behind k are walked -/
def WJ (bs : List Blk) (tb : TypeId) (no : Int) (k M : Nat) (E0 : PEnv) (i : Nat) (L : List LObj) : Prop :=
  ∃ f todo junk r rest, Walk bs no f todo k i ∧ 2 * f.count false + todo.length ≤ M ∧ noIdL junk = true ∧
    L = .row 3 [pin no] :: .row 4 (f.map pbool) :: .row 42 [.slc 1 0 bs.length bs.length] :: .row 24 [.slc (r + 4) 0 todo.length (todo.length + junk.length)] :: rest ∧
    rest[r]? = some (.row 3 (todo.map pn ++ junk)) ∧ r ≠ 1 ∧ r ≠ 2 ∧ r ≠ 3 ∧ rest[1]? = some (.row 29 [blks tb bs]) ∧ rest[2]? = some (.row 3 [pin k]) ∧ rest[3]? = some (.loop E0 [40] wAs wBody 0 none)

set_option maxHeartbeats 4000000 in
theorem w_yield {bs : List Blk} {tb : TypeId} {no : Int} {k M i : Nat} {E0 : PEnv} {L : List LObj} (hok : OkG bs) (hk : k < bs.length) (hM : M ≤ 3000) (hi : i < bs[k].next.length) (hJ : WJ bs tb no k M E0 i L) (hin : inG bs.length bs[k].next[i] = true)
    (e3 : E0.get 3 = some (.ptr 0 0)) (e5 : E0.get 5 = some (.ptr 2 0)) (e6 : E0.get 6 = some (.ptr 3 0)) :
    PF FD XA XN false (.yl 7) [pin bs[k].next[i]] L (fun v L' => v = pbool true ∧ WJ bs tb no k M E0 (i + 1) L') := by
  obtain ⟨f, todo, junk, r, rest, hw, hm, hnj, rfl, hr, r1, r2, r3, g1, g2, g3⟩ := hJ
  have hin' := hin
  simp only [inG, Bool.and_eq_true, decide_eq_true_eq] at hin'
  obtain ⟨x, hx⟩ : ∃ x : Nat, bs[k].next[i] = (x : Int) := ⟨bs[k].next[i].toNat, by omega⟩
  have hxl : x < bs.length := by omega
  have hxf : x < f.length := by rw [hw.len]; exact hxl
  have hg3 : 3 < rest.length := (List.getElem?_eq_some_iff.1 g3).1
  have hgr : r < rest.length := (List.getElem?_eq_some_iff.1 hr).1
  have r3' : ¬ 3 = r := fun h => r3 h.symm
  have hr' : rest[r]'hgr = _ := (List.getElem?_eq_some_iff.1 hr).2
  have g3' : rest[3]'hg3 = _ := (List.getElem?_eq_some_iff.1 g3).2
  have rm : roomy (todo.length + 1) 8 := roomy_of (by omega) (by omega)
  refine PF_yield1 (E1 := E0.set 40 (pin bs[k].next[i])) (by simpa using g3) (by simp) ?_
  have go : ∀ f', f[x]? = some f' → Walk bs no f todo k i → ((x : Int) = no ∨ f' = true) → Walk bs no f todo k (i + 1) := fun f' hf' h hor => h.skip hk hi fun _ hno => by
    rw [hx] at hno ⊢
    rcases hor with h | h
    · exact absurd h hno
    · simpa [h] using hf'
  by_cases hno : (x : Int) = no
  · simp [e3, e5, e6, hx, hno, g3, hg3]
    exact ⟨g3', f, todo, junk, r, _, go _ (List.getElem?_eq_getElem hxf) hw (.inl hno), hm, hnj, rfl, by simp [hr, r3'], r1, r2, r3, by simp [g1], by simp [g2], by simp [hg3]⟩
  · have hno' : ((x : Int) != no) = true := by simp [hno]
    cases hf : f[x] with
    | true =>
      simp [e3, e5, e6, hx, hno, hno', g3, hg3, hxl, hxf, hf]
      exact ⟨g3', f, todo, junk, r, _, go _ (List.getElem?_eq_getElem hxf) hw (.inr hf), hm, hnj, rfl, by simp [hr, r3'], r1, r2, r3, by simp [g1], by simp [g2], by simp [hg3]⟩
    | false =>
      have hc := unm_set (f := f) (j := x) (by simp [hxf, hf])
      have hadd := hw.add hk hi hin (by rw [hx]; exact hno)
      rw [hx, Int.toNat_natCast] at hadd
      have hmap : (List.map pbool f).set x (pbool true) = List.map pbool (f.set x true) := by rw [List.map_set]
      have s3 : ∀ (a b : LObj) (h : 3 < ((rest.set 3 a).set r b).length), ((rest.set 3 a).set r b)[3] = a := fun a b h => by simp [List.getElem_set, r3]
      cases junk with
      | nil =>
        have r1' : ¬ 1 = r := fun h => r1 h.symm
        simp [e3, e5, e6, hx, hno', g3, hg3, hxl, hxf, hf, hr, r3', rm, List.getElem?_append, hgr, hr', g3']
        refine ⟨s3 _ _ _, f.set x true, todo ++ [x], [], rest.length + 1, _, hadd, by simp; omega, rfl, by simp; rfl, ?_, by omega, by omega, by omega, ?_, ?_, ?_⟩
        · rw [List.getElem?_append_right (by simp)]; simp
        · rw [List.getElem?_append_left (by simp; omega)]; simp [List.getElem?_set, r1, g1]
        · rw [List.getElem?_append_left (by simp; omega)]; simp [List.getElem?_set, r2, g2]
        · rw [List.getElem?_append_left (by simp; omega)]; simp [List.getElem?_set, hg3]
      | cons j0 junk =>
        simp [e3, e5, e6, hx, hno', g3, hg3, hxl, hxf, hf, hr, r3', rm, List.getElem?_append, hgr, hr', g3']
        simp only [noIdL, Bool.and_eq_true] at hnj
        refine ⟨s3 _ _ _, f.set x true, todo ++ [x], junk, r, _, hadd, by simp; omega, hnj.2, by simp [Nat.add_comm 1, Nat.add_assoc]; rfl, ?_, r1, r2, r3, ?_, ?_, ?_⟩
        · rw [List.getElem?_append_left (by simp; omega)]; simp [List.getElem?_set, hgr, r3']
        · rw [List.getElem?_append_left (by simp; omega)]; simp [List.getElem?_set, r1, g1]
        · rw [List.getElem?_append_left (by simp; omega)]; simp [List.getElem?_set, r2, g2]
        · rw [List.getElem?_append_left (by simp; omega)]; simp [List.getElem?_set, hg3]
end Go.Den
/- The seat's functions, part E: without, Reached. -/
namespace Go.Den
open IrD
attribute [local irreducible] T.get T.set
set_option maxHeartbeats 4000000 in
theorem w_range {tb : TypeId} {bs : List Blk} {no : Int} {E0 : PEnv} {f : List Bool} {td : List Nat} {kk : Nat} {junk : List PV} {c : Nat} {Q : Ex → PEnv → List LObj → Prop} (hok : OkG bs) (hkl : kk < bs.length) (hM : 2 * f.count false + td.length ≤ 3000)
    (e3 : E0.get 3 = some (.ptr 0 0)) (e5 : E0.get 5 = some (.ptr 2 0)) (e6 : E0.get 6 = some (.ptr 3 0)) (e39 : E0.get 39 = some (.fn 61 [] [.ptr 5 0, .ptr 6 0])) (hw : Walk bs no f td kk 0) (hj : noIdL junk = true) (hc : c = td.length + junk.length)
    (hQ : ∀ (f' : List Bool) (todo : List Nat) (junk' : List PV) (r : Nat) (rest : List LObj), Marked bs no f' todo → 2 * f'.count false + todo.length ≤ 2 * f.count false + td.length → noIdL junk' = true → rest[r]? = some (.row 3 (todo.map pn ++ junk')) → r ≠ 3 → r < rest.length →
      Q .norm E0 (.row 3 [pin no] :: .row 4 (f'.map pbool) :: .row 42 [.slc 1 0 bs.length bs.length] :: .row 24 [.slc (r + 4) 0 todo.length (todo.length + junk'.length)] :: rest.set 3 .dead)) :
    PC FD XA XN 0 (.rangeFunc (t 39) [40] wAs wBody) Q E0 [.row 3 [pin no], .row 4 (f.map pbool), .row 42 [.slc 1 0 bs.length bs.length], .row 24 [.slc 4 0 td.length c], .row 3 (td.map pn ++ junk), .row 29 [blks tb bs], .row 3 [pin kk]] := by
  refine PC_rangeFunc (by simpa using e39) ?_
  refine PF.mono (following_run (t := tb) (kk := kk) (J := WJ bs tb no kk (2 * f.count false + td.length) E0) (K := WJ bs tb no kk (2 * f.count false + td.length) E0 (bs[kk].next.length)) hok hkl ?_ ?_ ?_ ?_ ?_) ?_
  · rintro i L ⟨f, todo, junk, r, rest, hw, hm, hnj, rfl, hr, r1, r2, r3, g1, g2, g3⟩
    exact ⟨by simp [g1], by simp [g2]⟩
  · rintro i hi L ⟨f, todo, junk, r, rest, hw, hm, hnj, rfl, hr, r1, r2, r3, g1, g2, g3⟩ hin
    exact ⟨f, todo, junk, r, rest, hw.skip hkl hi (fun h => by rw [hin] at h; cases h), hm, hnj, rfl, hr, r1, r2, r3, g1, g2, g3⟩
  · intro i hi L hJ hin
    exact (w_yield hok hkl hM hi hJ hin e3 e5 e6).mono fun v L' h => .inl h
  · exact fun L h => h
  · exact ⟨f, td, junk, 0, _, hw, Nat.le_refl _, hj, by rw [hc]; rfl, rfl, by omega, by omega, by omega, rfl, rfl, rfl⟩
  · rintro v L ⟨f', todo, junk', r, rest, hw', hm', hnj, rfl, hr, r1, r2, r3, g1, g2, g3⟩
    refine ⟨E0, [40], wAs, wBody, 0, none, by simpa using g3, by omega, ?_⟩
    exact hQ f' todo junk' r rest (hw'.done hkl) hm' hnj hr r3 (List.getElem?_eq_some_iff.1 hr).1

set_option maxHeartbeats 4000000 in
theorem without_ok {tb : TypeId} {bs : List Blk} {no : Int} (hok : OkG bs) : PPd (.fn 36 [] []) [blks tb bs, pin no] (blist 4 (reachL bs no)) := by
  have hl := hok.len
  have l1 : (bs.length : Int) ≤ 9223372036854775807 := by omega
  have l2 : (bs.length : Int) ≤ 281474976710656 := by omega
  refine PP_code rfl rfl rfl (by simp) (by simp) (by simp) (PW_ok _ ?_)
  by_cases h0 : bs = []
  · subst h0
    simp [ir36, blks, recs]
    exact Vw.frz rfl (by simp [repl]) (by simp [repl]) (by simp [blist, reachL, repl])
  by_cases hno : no = 0
  · subst hno
    simp [ir36, blks, recs, l1, l2, h0, repl_rep]
    have hr : reachL bs 0 = List.replicate bs.length false := by
      refine (reachL_of (by simp) fun i => ⟨fun h => ?_, fun h => ?_⟩).symm
      · rw [List.getElem?_replicate] at h; split at h <;> simp at h
      · exfalso
        induction h with
        | zero _ h => exact h rfl
        | step _ _ _ ih => exact ih
    exact Vw.frz rfl (by simp [allNl]) (by simp [noIdL_iff]) (by simp [blist, hr])
  have hpos : 0 < bs.length := List.length_pos_iff.2 h0
  simp [ir36, blks, recs, l1, l2, h0, hno, repl_rep, hpos]
  refine PC.abs (Abs.viewL [0, 1, 2, 4, 3] [(0, blks tb bs), (3, .ptr 0 0), (5, .ptr 2 0), (6, .ptr 3 0)] (by simp) (by simp) (fun i h => by omega) (by simp)
    (L' := [.row 3 [pin no], .row 4 (((List.replicate bs.length false).set 0 true).map pbool), .row 42 [.slc 1 0 bs.length bs.length], .row 24 [.slc 4 0 1 1], .row 3 [pin 0]]) ?_ ?_) ?_
  · refine .cons ⟨_, rfl, .row (VwL.same (by simp))⟩ (.cons ⟨_, rfl, .row (by rw [List.map_set, List.map_replicate]; exact VwL.same (noIdL_set (by simp [noIdL_iff]) rfl))⟩ (.cons ⟨_, rfl, .row (.cons (.slc rfl) .nil)⟩ (.cons ⟨_, rfl, .row (.cons (.slc rfl) .nil)⟩ (.cons ⟨_, rfl, .row (VwL.same (by simp))⟩ .nil))))
  · simp
    exact ⟨.same (by simp [blks, recs]), .ptr rfl, .ptr rfl, .ptr rfl⟩
  refine PC_loop (fun k E L => ∃ f todo junk, Marked bs no f todo ∧ 2 * f.count false + todo.length = k ∧ k ≤ 2500 ∧ noIdL junk = true ∧
    L = [.row 3 [pin no], .row 4 (f.map pbool), .row 42 [.slc 1 0 bs.length bs.length], .row 24 [.slc 4 0 todo.length (todo.length + junk.length)], .row 3 (todo.map pn ++ junk)] ∧
    E.get 0 = some (blks tb bs) ∧ E.get 3 = some (.ptr 0 0) ∧ E.get 5 = some (.ptr 2 0) ∧ E.get 6 = some (.ptr 3 0)) ?_ (k := 2 * ((List.replicate bs.length false).set 0 true).count false + 1)
    ⟨_, [0], [], Marked.start h0 hno, by simp, ?_, rfl, by simp, by simp [envOf], by simp [envOf], by simp [envOf], by simp [envOf]⟩
  case refine_2 =>
    have := List.count_le_length (a := false) (l := (List.replicate bs.length false).set 0 true)
    simp at this
    omega
  rintro k E L ⟨f, todo, junk, hm, hk, hk2, hj, rfl, e0, e3, e5, e6⟩
  rcases List.eq_nil_or_concat todo with rfl | ⟨td, kk, rfl⟩
  · refine PW_ok _ ?_
    simp [e5, e6]
    refine Vw.frz rfl (by simp) (by simp) ?_
    rw [hm.done]; simp [blist, reachL_len]
  · rw [List.concat_eq_append] at hm hk ⊢
    have hkf := hm.marked kk (by simp)
    have hkl : kk < bs.length := by rw [← hm.len]; exact (List.getElem?_eq_some_iff.1 hkf).1
    have hlen : td.length ≤ 2500 := by simp at hk; omega
    have w1 : IntKind.wrap .i64 (td.length : Int) = td.length := wrap64 (by omega) (by omega)
    have c0 : ¬ ((td.length : Int) + 1 = 0) := by omega
    have c1 : (td.length : Int) < td.length + 1 := by omega
    have c2 : (td.length : Int) ≤ td.length + 1 + junk.length := by omega
    have c3 : td.length ≤ td.length + 1 + junk.length := by omega
    refine PW_ok _ ?_
    simp [e0, e3, e5, e6, w1, c0, c1, c2, c3]
    unfold PFk
    refine following_ok ?_
    simp
    refine w_range hok hkl (f := f) (td := td) (junk := pn kk :: junk) ?_ (by simp [e3]) (by simp [e5]) (by simp [e6]) (by simp) hm.walk (by simp [hj]) (by simp; omega) ?_
    · simp at hk; omega
    intro f' todo junk' r rest hm' hle hnj hr r3 hrl
    simp
    refine ⟨2 * f'.count false + todo.length, by simp at hk; omega, envOf [(0, blks tb bs), (3, .ptr 0 0), (5, .ptr 2 0), (6, .ptr 3 0)],
      [.row 3 [pin no], .row 4 (f'.map pbool), .row 42 [.slc 1 0 bs.length bs.length], .row 24 [.slc 4 0 todo.length (todo.length + junk'.length)], .row 3 (todo.map pn ++ junk')], ?_, f', todo, hm', rfl, by simp at hk; omega, junk', hnj, rfl, by simp [envOf], by simp [envOf], by simp [envOf], by simp [envOf]⟩
    refine Abs.viewL [0, 1, 2, 3, r + 4] _ (by simp) (by simp; omega) (fun i h => by omega) (by simp) ?_ ?_
    · refine .cons ⟨_, rfl, .row (VwL.same (by simp))⟩ (.cons ⟨_, rfl, .row (VwL.same (by simp))⟩ (.cons ⟨_, rfl, .row (.cons (.slc rfl) .nil)⟩ (.cons ⟨_, rfl, .row (.cons (.slc rfl) .nil)⟩ (.cons ⟨_, ?_, .row (VwL.same (by simp [hnj]))⟩ .nil))))
      simp [List.getElem?_set, hr, show ¬ 3 = r from fun h => r3 h.symm]
    · simp [e0, e3, e5, e6]
      exact ⟨.same (by simp), .ptr rfl, .ptr rfl, .ptr rfl⟩
end Go.Den
/- The seat's functions, part F: reach of the reference. -/
namespace Go.Den
open IrD
attribute [local irreducible] T.get T.set

def closedAt (bs : List Blk) (no : Int) (f : List Bool) (j : Nat) : Prop := f[j]? = some true → ∀ x ∈ succs bs j, x ≠ no → f[x.toNat]? = some true
/-- the marks while a pass goes on that began with fp and is at i -/
structure Pass (bs : List Blk) (no : Int) (fp f : List Bool) (ag : Bool) (i : Nat) : Prop where
  len : f.length = bs.length
  zero : f[0]? = some true
  sound : ∀ i : Nat, f[i]? = some true → Reach bs no i
  same : ag = false → f = fp ∧ ∀ j, j < i → closedAt bs no f j
  less : ag = true → f.count false < fp.count false
/-- inside the numbers behind i -/
structure Pass2 (bs : List Blk) (no : Int) (fp f : List Bool) (ag : Bool) (i k : Nat) : Prop extends Pass bs no fp f ag i where
  part : ag = false → f[i]? = some true → ∀ h : i < bs.length, ∀ x ∈ bs[i].next.take k, inG bs.length x = true → x ≠ no → f[x.toNat]? = some true
theorem Pass.begin {bs : List Blk} {no : Int} {fp f : List Bool} {ag : Bool} {i : Nat} (h : Pass bs no fp f ag i) : Pass2 bs no fp f ag i 0 := ⟨h, fun _ _ _ x hx => by simp at hx⟩
theorem Pass2.done {bs : List Blk} {no : Int} {fp f : List Bool} {ag : Bool} {i k : Nat} (hi : i < bs.length) (h : Pass2 bs no fp f ag i k) (hk : f[i]? = some true → bs[i].next.length ≤ k) : Pass bs no fp f ag (i + 1) := by
  refine ⟨h.len, h.zero, h.sound, fun ha => ⟨(h.same ha).1, fun j hj => ?_⟩, h.less⟩
  by_cases e : j = i
  · subst e
    intro hf x hx hno
    obtain ⟨a, b, c, d⟩ := succs_mem hx
    refine h.part ha hf hi x ?_ (by simp [inG, a, b]) hno
    rw [List.take_of_length_le (hk hf)]; exact d
  · exact (h.same ha).2 j (by omega)
theorem Pass2.skip {bs : List Blk} {no : Int} {fp f : List Bool} {ag : Bool} {i k : Nat} (hi : i < bs.length) (hk : k < bs[i].next.length) (h : Pass2 bs no fp f ag i k) (hs : inG bs.length bs[i].next[k] = true → bs[i].next[k] ≠ no → f[bs[i].next[k].toNat]? = some true) : Pass2 bs no fp f ag i (k + 1) := by
  refine ⟨h.toPass, fun ha hf _ x hx h1 h2 => ?_⟩
  rw [List.take_succ_eq_append_getElem hk] at hx
  rcases List.mem_append.1 hx with hx | hx
  · exact h.part ha hf hi x hx h1 h2
  · simp at hx; subst hx; exact hs h1 h2
theorem Pass2.add {bs : List Blk} {no : Int} {fp f : List Bool} {ag : Bool} {i k j : Nat} (hi : i < bs.length) (hk : k < bs[i].next.length) (h : Pass2 bs no fp f ag i k) (hf : f[i]? = some true) (hj : bs[i].next[k] = (j : Int)) (hjl : j < bs.length) (hno : (j : Int) ≠ no) (hfj : f[j]? = some false) : Pass2 bs no fp (f.set j true) true i (k + 1) := by
  have hc := unm_set hfj
  have hjf : j < f.length := by rw [h.len]; exact hjl
  refine ⟨⟨by simpa using h.len, ?_, fun x hx => ?_, (fun ha => by cases ha), fun _ => ?_⟩, (fun ha => by cases ha)⟩
  · rw [List.getElem?_set]; split
    · rename_i e; subst e; simp [hjf]
    · exact h.zero
  · rw [List.getElem?_set] at hx
    split at hx
    · rename_i e; subst e
      have := Reach.step (h.sound i hf) (mem_succs hi (List.getElem_mem hk) (by rw [hj]; simp [inG, hjl])) (by rw [hj]; exact hno)
      rw [hj] at this; simpa using this
    · exact h.sound x hx
  · cases ag with
    | true => have := h.less rfl; omega
    | false => have := (h.same rfl).1; subst this; omega
theorem Pass.closed {bs : List Blk} {no : Int} {fp f : List Bool} (h : Pass bs no fp f false bs.length) : f = reachL bs no := by
  refine reachL_of h.len fun i => ⟨h.sound i, fun r => ?_⟩
  induction r with
  | zero => exact h.zero
  | step r hj hn ih => exact (h.same rfl).2 _ (Reach.lt r) ih _ hj hn

structure REnv (tb : TypeId) (bs : List Blk) (no : Int) (f : List Bool) (ag : Bool) (E : PEnv) (L : List LObj) : Prop where
  l : L = [.row 4 (f.map pbool)]
  e0 : E.get 0 = some (blks tb bs)
  e1 : E.get 1 = some (pin no)
  e5 : E.get 5 = some (.slc 0 0 bs.length bs.length)
  e6 : E.get 6 = some (pbool ag)
def RJ1 (tb : TypeId) (bs : List Blk) (no : Int) (m : Nat) (E : PEnv) (L : List LObj) : Prop := ∃ f ag, f.length = bs.length ∧ f[0]? = some true ∧ (∀ i : Nat, f[i]? = some true → Reach bs no i) ∧ (ag = false → f = reachL bs no) ∧ m = 2 * f.count false + (if ag = true then 1 else 0) ∧ REnv tb bs no f ag E L
def RJ2 (tb : TypeId) (bs : List Blk) (no : Int) (fp : List Bool) (m : Nat) (E : PEnv) (L : List LObj) : Prop := ∃ f ag i, i + m = bs.length ∧ Pass bs no fp f ag i ∧ REnv tb bs no f ag E L ∧ E.get 7 = some (pin i)
def RJ3 (tb : TypeId) (bs : List Blk) (no : Int) (fp : List Bool) (i : Nat) (hi : i < bs.length) (m : Nat) (E : PEnv) (L : List LObj) : Prop := ∃ f ag k, k + m = bs[i].next.length ∧ Pass2 bs no fp f ag i k ∧ REnv tb bs no f ag E L ∧ E.get 7 = some (pin i) ∧ E.get 8 = some (pin k)

set_option maxRecDepth 8000 in
set_option maxHeartbeats 4000000 in
theorem reach_ok {tb : TypeId} {bs : List Blk} {no : Int} (hok : OkG bs) : PPd (.fn 37 [] []) [blks tb bs, pin no] (blist 4 (reachL bs no)) := by
  have hl := hok.len
  have hb : big bs.length := by unfold big; omega
  have l1 : (bs.length : Int) ≤ 9223372036854775807 := by omega
  have l2 : (bs.length : Int) ≤ 281474976710656 := by omega
  refine PP_code rfl rfl rfl (by simp) (by simp) (by simp) (PW_ok _ ?_)
  by_cases h0 : bs = []
  · subst h0
    simp [ir37, blks, recs]
    exact Vw.frz rfl (by simp [repl]) (by simp [repl]) (by simp [blist, reachL, repl])
  by_cases hno : no = 0
  · subst hno
    simp [ir37, blks, recs, l1, l2, h0, repl_rep]
    have hr : reachL bs 0 = List.replicate bs.length false := by
      refine (reachL_of (by simp) fun i => ⟨fun h => ?_, fun h => ?_⟩).symm
      · rw [List.getElem?_replicate] at h; split at h <;> simp at h
      · exfalso
        induction h with
        | zero _ h => exact h rfl
        | step _ _ _ ih => exact ih
    exact Vw.frz rfl (by simp [allNl]) (by simp [noIdL_iff]) (by simp [blist, hr])
  have hpos : 0 < bs.length := List.length_pos_iff.2 h0
  have hm := Marked.start (bs := bs) h0 hno
  simp [ir37, blks, recs, l1, l2, h0, hno, repl_rep, hpos]
  refine PC_loop0 (RJ1 tb bs no) ?_
    ⟨(List.replicate bs.length false).set 0 true, true, by simp, hm.zero, hm.sound, (fun h => by cases h), rfl, by rw [List.map_set, List.map_replicate], by simp [blks, recs], by simp, by simp, by simp⟩
  rintro m E L ⟨f, ag, f1, f2, f3, f4, rfl, rfl, e0, e1, e5, e6⟩
  cases ag with
  | false =>
    simp [e5, e6]
    exact Vw.frz rfl (by simp) (by simp) (by rw [f4 rfl]; simp [blist, reachL_len])
  | true =>
  simp [e6]
  refine PC_loop0 (RJ2 tb bs no f) ?_ (k := bs.length)
    ⟨f, false, 0, by simp, ⟨f1, f2, f3, fun _ => ⟨rfl, fun j hj => by omega⟩, (fun h => by cases h)⟩, ⟨rfl, by simp [e0], by simp [e1], by simp [e5], by simp⟩, by simp⟩
  clear e0 e1 e5 e6
  rintro m2 E L ⟨f', ag, i, him, hp, ⟨rfl, e0, e1, e5, e6⟩, e7⟩
  by_cases hi : i < bs.length
  case neg =>
    have : i = bs.length := by omega
    subst this
    simp [e0, e7, blks, recs]
    cases ag with
    | true =>
      have := hp.less rfl
      exact ⟨2 * f'.count false + 1, by omega, f', true, hp.len, hp.zero, hp.sound, (fun h => by cases h), rfl, rfl, by simp [e0], by simp [e1], by simp [e5], by simp [e6]⟩
    | false =>
      have := (hp.same rfl).1
      subst this
      exact ⟨2 * f'.count false, by omega, f', false, hp.len, hp.zero, hp.sound, fun _ => hp.closed, rfl, rfl, by simp [e0], by simp [e1], by simp [e5], by simp [e6]⟩
  simp [e0, e7, blks, recs, hi]
  refine PC_loop0 (RJ3 tb bs no f i hi) ?_ (k := bs[i].next.length) ⟨f', ag, 0, by simp, hp.begin, ⟨rfl, by simp [e0], by simp [e1], by simp [e5], by simp [e6]⟩, by simp [e7], by simp⟩
  have hbi : big bs[i].next.length := by have := hok.next _ (List.getElem_mem hi); unfold big; omega
  clear e0 e1 e5 e6 e7 hp
  rintro m E L ⟨f', ag, k, hkm, hp, ⟨rfl, e0, e1, e5, e6⟩, e7, e8⟩
  have hif : i < f'.length := by rw [hp.len]; exact hi
  by_cases hk : k < bs[i].next.length
  case neg =>
    simp [e0, e7, e8, blks, recs, hi, cutB hi, ints, hk, wrap_inc hi hb]
    exact ⟨m2 - 1, by omega, f', ag, i + 1, by omega, hp.done hi (fun _ => by omega), ⟨rfl, by simp [e0], by simp [e1], by simp [e5], by simp [e6]⟩, by simp⟩
  cases hfi : f'[i] with
  | false =>
    simp [e0, e5, e7, e8, blks, recs, hi, cutB hi, ints, hk, hfi, hif, wrap_inc hi hb]
    exact ⟨m2 - 1, by omega, f', ag, i + 1, by omega, hp.done hi (fun h => by simp [hif, hfi] at h), ⟨rfl, by simp [e0], by simp [e1], by simp [e5], by simp [e6]⟩, by simp⟩
  | true =>
  have hft : f'[i]? = some true := by simp [hif, hfi]
  have next : ∀ {E' : PEnv}, E'.get 0 = some (blks tb bs) → E'.get 1 = some (pin no) → E'.get 5 = some (.slc 0 0 bs.length bs.length) → E'.get 6 = some (pbool ag) → E'.get 7 = some (pin i) → E'.get 8 = some (pin ((k : Int) + 1)) →
      (inG bs.length bs[i].next[k] = true → bs[i].next[k] ≠ no → f'[bs[i].next[k].toNat]? = some true) → ∃ k', k' < m ∧ RJ3 tb bs no f i hi k' E' [.row 4 (f'.map pbool)] := fun a0 a1 a5 a6 a7 a8 hs =>
    ⟨m - 1, by omega, f', ag, k + 1, by omega, hp.skip hi hk hs, ⟨rfl, a0, a1, a5, a6⟩, a7, by rw [a8]; simp⟩
  by_cases hx0 : 0 ≤ bs[i].next[k]
  case neg =>
    simp [e0, e5, e7, e8, blks, recs, hi, cutB hi, ints, hk, hfi, hif, cut1 hk, hx0, wrap_inc hk hbi]
    exact next (by simp [e0]) (by simp [e1]) (by simp [e5]) (by simp [e6]) (by simp [e7]) (by simp) (fun h _ => by simp [inG, hx0] at h)
  by_cases hx1 : bs[i].next[k] < (bs.length : Int)
  case neg =>
    simp [e0, e5, e7, e8, blks, recs, hi, cutB hi, ints, hk, hfi, hif, cut1 hk, hx0, hx1, wrap_inc hk hbi]
    exact next (by simp [e0]) (by simp [e1]) (by simp [e5]) (by simp [e6]) (by simp [e7]) (by simp) (fun h _ => by simp [inG, hx0, hx1] at h)
  obtain ⟨x, hx⟩ : ∃ x : Nat, bs[i].next[k] = (x : Int) := ⟨bs[i].next[k].toNat, by omega⟩
  have hxl : x < bs.length := by omega
  have hxf : x < f'.length := by rw [hp.len]; exact hxl
  by_cases hxn : (x : Int) = no
  case pos =>
    subst hxn
    simp [e0, e1, e5, e7, e8, blks, recs, hi, cutB hi, ints, hk, hfi, hif, cut1 hk, hx, hxl, wrap_inc hk hbi]
    exact next (by simp [e0]) (by simp [e1]) (by simp [e5]) (by simp [e6]) (by simp [e7]) (by simp) (fun _ h => absurd hx h)
  cases hfx : f'[x] with
  | true =>
    simp [e0, e1, e5, e7, e8, blks, recs, hi, cutB hi, ints, hk, hfi, hif, cut1 hk, hx, hxn, hxl, hxf, hfx, wrap_inc hk hbi]
    exact next (by simp [e0]) (by simp [e1]) (by simp [e5]) (by simp [e6]) (by simp [e7]) (by simp) (fun _ _ => by simp [hx, hxf, hfx])
  | false =>
    simp [e0, e1, e5, e7, e8, blks, recs, hi, cutB hi, ints, hk, hfi, hif, cut1 hk, hx, hxn, hxl, hxf, hfx, wrap_inc hk hbi]
    exact ⟨m - 1, by omega, f'.set x true, true, k + 1, by omega, hp.add hi hk hft hx hxl hxn (by simp [hxf, hfx]), ⟨by rw [List.map_set], by simp [e0], by simp [e1], by simp [e5], by simp⟩, by simp [e7], by simp⟩
end Go.Den
/- The seat's functions, part G: Reached, dominates, back. -/
namespace Go.Den
open IrD
attribute [local irreducible] T.get T.set
theorem reached_ok {tb : TypeId} {bs : List Blk} (hok : OkG bs) : PPd (.fn 15 [] []) [blks tb bs] (blist 4 (reachL bs (-1))) := by
  refine PP_code rfl rfl rfl (by simp) (by simp) (by simp) (PW_ok _ ?_)
  simp [ir15]
  refine (without_ok hok).runk ?_
  simp
  exact .same (by simp)
theorem reachedR_ok {tb : TypeId} {bs : List Blk} (hok : OkG bs) : PPd (.fn 16 [] []) [blks tb bs] (blist 4 (reachL bs (-1))) := by
  refine PP_code rfl rfl rfl (by simp) (by simp) (by simp) (PW_ok _ ?_)
  simp [ir16]
  refine (reach_ok hok).runk ?_
  simp
  exact .same (by simp)
/-- does d dominate b? -/
noncomputable def domB (bs : List Blk) (d b : Nat) : Bool := (reachL bs (-1)).getD b false && (decide (d = b) || !(reachL bs d).getD b false)
theorem domR_ok {tb : TypeId} {bs : List Blk} {d b : Nat} (hok : OkG bs) (hb : b < bs.length) : PPd (.fn 38 [] []) [blks tb bs, pn d, pn b] (pbool (domB bs d b)) := by
  have h1 : b < (reachL bs (-1)).length := by rw [reachL_len]; exact hb
  have h2 : b < (reachL bs d).length := by rw [reachL_len]; exact hb
  have l1 := reachL_len (bs := bs) (no := -1)
  have l2 := reachL_len (bs := bs) (no := d)
  refine PP_code rfl rfl rfl (by simp) (by simp) (by simp) (PW_ok _ ?_)
  simp [ir38]
  refine (reachedR_ok hok).runk ?_
  cases hr : (reachL bs (-1))[b] with
  | false =>
    simp [blist, l1, hb, cut1 h1, hr]
    exact .eq (by simp [domB, List.getD_eq_getElem?_getD, h1, hr]) rfl
  | true =>
  by_cases hdb : d = b
  · subst hdb
    simp [blist, l1, hb, cut1 h1, hr]
    exact .eq (by simp [domB, List.getD_eq_getElem?_getD, h1, hr]) rfl
  · have hdb' : ¬ (d : Int) = b := by omega
    simp [blist, l1, hb, cut1 h1, hr, hdb, hdb']
    refine (reach_ok hok).runk ?_
    simp [blist, l2, hb, cut1 h2, hr, hdb]
    exact .eq (by simp [domB, List.getD_eq_getElem?_getD, h1, h2, hr, hdb]) rfl
noncomputable def backB (bs : List Blk) (b h : Nat) : Bool := decide ((h : Int) ∈ (bs[b]?.map (·.next)).getD []) && domB bs h b
theorem back_ok {tb : TypeId} {bs : List Blk} {b h : Nat} (hok : OkG bs) (hb : b < bs.length) : PPd (.fn 33 [] []) [blks tb bs, pn b, pn h] (pbool (backB bs b h)) := by
  have hbi : big bs[b].next.length := by have := hok.next _ (List.getElem_mem hb); unfold big; omega
  refine PP_code rfl rfl rfl (by simp) (by simp) (by simp) (PW_ok _ ?_)
  simp [ir33, blks, recs, hb, cutB hb]
  refine (has_ok hbi).runk ?_
  by_cases hm : (h : Int) ∈ bs[b].next
  · simp [hm]
    refine (domR_ok (tb := tb) hok hb).runk ?_
    simp
    exact .eq (by simp [backB, hb, hm]) rfl
  · simp [hm]
    exact .eq (by simp [backB, hb, hm]) rfl
end Go.Den
/- The seat's functions, part H: dominates of the program. -/
namespace Go.Den
open IrD
attribute [local irreducible] T.get T.set
/-- a list that is filled up to i -/
def pre {α : Type} (n : Nat) (g : Nat → α) (x : α) (i : Nat) : List α := (List.range n).map fun j => if j < i then g j else x
theorem pre_len {α : Type} {n i : Nat} {g : Nat → α} {x : α} : (pre n g x i).length = n := by simp [pre]
theorem pre_zero {α : Type} {n : Nat} {g : Nat → α} {x : α} : pre n g x 0 = List.replicate n x := by
  apply List.ext_getElem (by simp [pre])
  intro i a b; simp [pre]
theorem pre_set {α : Type} {n i : Nat} {g : Nat → α} {x : α} : (pre n g x i).set i (g i) = pre n g x (i + 1) := by
  apply List.ext_getElem (by simp [pre])
  intro j a b
  simp only [pre, List.getElem_set, List.getElem_map, List.getElem_range]
  by_cases h : i = j
  · subst h; simp
  · simp only [h, if_false]
    by_cases h2 : j < i
    · simp [h2, show j < i + 1 by omega]
    · simp [h2, show ¬ j < i + 1 by omega]
theorem pre_full {α : Type} {n : Nat} {g : Nat → α} {x : α} : pre n g x n = (List.range n).map g := by
  unfold pre
  exact List.map_congr_left fun j hj => by rw [if_pos (List.mem_range.1 hj)]
theorem pre_map {α β : Type} {n i : Nat} {g : Nat → α} {x : α} {f : α → β} : (pre n g x i).map f = pre n (fun j => f (g j)) (f x) i := by
  simp only [pre, List.map_map]
  exact List.map_congr_left fun j _ => by simp only [Function.comp]; split <;> rfl
theorem pre_getD {α : Type} {n i j : Nat} {g : Nat → α} {x : α} (h : j < n) : (pre n g x i)[j]? = some (if j < i then g j else x) := by simp [pre, h]
theorem F2.set {α β : Type} {R : α → β → Prop} {as : List α} {bs : List β} (h : F2 R as bs) {i : Nat} {a : α} {b : β} (hab : R a b) : F2 R (as.set i a) (bs.set i b) := by
  induction h generalizing i with
  | nil => exact .nil
  | cons h _ ih => cases i with
    | zero => exact .cons hab (by assumption)
    | succ i => exact .cons h ih
/-- the row d of dominates -/
noncomputable def domP (bs : List Blk) (d b : Nat) : Bool := (reachL bs (-1)).getD d false && ((reachL bs (-1)).getD b false && !(reachL bs d).getD b false)
noncomputable def domRow (bs : List Blk) (d : Nat) : List Bool := (List.range bs.length).map (domP bs d)
noncomputable def domRows (bs : List Blk) : List (List Bool) := (List.range bs.length).map (domRow bs)
abbrev nilS : PV := .v (.slice none 0 0)
theorem noIdL_pre {n i : Nat} {g : Nat → PV} {x : PV} (h : ∀ j, noId (g j) = true) (hx : noId x = true) : noIdL (pre n g x i) = true := by
  unfold pre; exact noIdL_map fun j _ => by split; exact h j; exact hx

structure DEnv (tb : TypeId) (bs : List Blk) (d : Nat) (E : PEnv) : Prop where
  e0 : E.get 0 = some (blks tb bs)
  e3 : E.get 3 = some (blist 4 (reachL bs (-1)))
  e4 : E.get 4 = some (.slc 0 0 bs.length bs.length)
  e14 : E.get 14 = some (pin bs.length)
  e15 : E.get 15 = some (pn d)
def DJ1 (tb : TypeId) (bs : List Blk) (m : Nat) (E : PEnv) (L : List LObj) : Prop := ∃ d, d + m = bs.length ∧ L = [.row 42 (pre bs.length (fun d => blist 4 (domRow bs d)) nilS d)] ∧ DEnv tb bs d E
def DJ2 (tb : TypeId) (bs : List Blk) (d : Nat) (m : Nat) (E : PEnv) (L : List LObj) : Prop := ∃ b, b + m = bs.length ∧
  L = [.row 42 ((pre bs.length (fun d => blist 4 (domRow bs d)) nilS d).set d (.slc 1 0 bs.length bs.length)), .row 4 (pre bs.length (fun b => pbool (domP bs d b)) (pbool false) b)] ∧ DEnv tb bs d E ∧
  E.get 5 = some (pn d) ∧ E.get 6 = some (blist 4 (reachL bs d)) ∧ E.get 33 = some (pin bs.length) ∧ E.get 34 = some (pn b)

theorem dom_next {tb : TypeId} {bs : List Blk} {d m : Nat} {E : PEnv} {cs : List PV} (hd : d < bs.length) (hdm : d + m = bs.length) (hcs : cs = (domRow bs d).map pbool)
    (e0 : E.get 0 = some (blks tb bs)) (e3 : E.get 3 = some (blist 4 (reachL bs (-1)))) (e4 : E.get 4 = some (.slc 0 0 bs.length bs.length)) (e14 : E.get 14 = some (pin bs.length)) (e15 : E.get 15 = some (pn (d + 1))) :
    ∃ k', k' < m ∧ ∃ E' L', Abs 0 E [.row 42 ((pre bs.length (fun d => blist 4 (domRow bs d)) nilS d).set d (.slc 1 0 bs.length bs.length)), .row 4 cs] E' L' ∧ DJ1 tb bs k' E' L' := by
  refine ⟨m - 1, by omega, envOf [(0, blks tb bs), (3, blist 4 (reachL bs (-1))), (4, .slc 0 0 bs.length bs.length), (14, pin bs.length), (15, pn (d + 1))], [.row 42 (pre bs.length (fun d => blist 4 (domRow bs d)) nilS (d + 1))], ?_,
    d + 1, by omega, rfl, ⟨by simp [envOf], by simp [envOf], by simp [envOf], by simp [envOf], by simp [envOf]⟩⟩
  refine Abs.viewL [0] _ (by simp) (by simp) (fun i h => by omega) (by simp) (.cons ⟨_, rfl, .row ?_⟩ .nil) ?_
  · rw [← pre_set]
    refine F2.set (VwL.same (noIdL_pre (fun j => by simp) rfl)) ?_
    have h : Vw [0] [.row 42 ((pre bs.length (fun d => blist 4 (domRow bs d)) nilS d).set d (.slc 1 0 bs.length bs.length)), .row 4 cs] (.slc 1 0 bs.length bs.length) (.fz 4 bs.length ((domRow bs d).map pbool)) :=
      .fzs (t := 4) (cs := cs) (cs'' := cs) (by simp) rfl (by rw [hcs]; simp) (by simp) (by simp) (by rw [hcs]) (fun i a b => by simp only [hcs]; exact .same (by simp))
    have e : blist 4 (domRow bs d) = .fz 4 bs.length ((domRow bs d).map pbool) := by simp [blist, domRow]
    rw [e]; exact h
  · simp [e0, e3, e4, e14, e15]
    exact ⟨.same (by simp), .same (by simp), .slc rfl, .same rfl, .same rfl⟩

set_option maxHeartbeats 4000000 in
theorem dominates_ok {tb : TypeId} {bs : List Blk} (hok : OkG bs) : PPd (.fn 31 [] []) [blks tb bs] (.fz 42 bs.length ((domRows bs).map (blist 4))) := by
  have hl := hok.len
  have hb : big bs.length := by unfold big; omega
  have l1 : (bs.length : Int) ≤ 9223372036854775807 := by omega
  have l2 : (bs.length : Int) ≤ 281474976710656 := by omega
  have l3 : 24 * (bs.length : Int) ≤ 281474976710656 := by omega
  have r1 := reachL_len (bs := bs) (no := -1)
  have hbl : ∀ no, blist 4 (reachL bs no) = .fz 4 bs.length ((reachL bs no).map pbool) := fun no => by simp [blist, reachL_len]
  refine PP_code rfl rfl rfl (by simp) (by simp) (by simp [noIdL_iff]) (PW_ok _ ?_)
  simp [ir31]
  refine (reached_ok hok).runk ?_
  simp [blks, recs, l1, l2, l3, repl_rep]
  refine PC_loop (DJ1 tb bs) ?_ (k := bs.length) ⟨0, by simp, by rw [pre_zero], ⟨by simp [blks, recs], by simp, by simp, by simp, by simp⟩⟩
  rintro m E L ⟨d, hdm, rfl, e0, e3, e4, e14, e15⟩
  refine PW_ok _ ?_
  by_cases hd : d < bs.length
  case neg =>
    have : d = bs.length := by omega
    subst this
    simp [e4, e14, e15]
    refine Vw.frz rfl (by rw [pre_full]; simp [blist]) (by rw [pre_full]; simp) (by rw [pre_full]; simp [domRows])
  have hd2 : d < (reachL bs (-1)).length := by rw [r1]; exact hd
  cases hr : (reachL bs (-1))[d] with
  | false =>
    simp [e0, e3, e4, e14, e15, blks, recs, hd, l1, l2, repl_rep, pre_len, hbl, cut1 hd2, r1, hr, wrap_inc hd hb]
    refine dom_next (tb := tb) hd hdm ?_ (by simp [e0]) (by simp [e3]) (by simp [e4]) (by simp [e14]) (by simp)
    apply List.ext_getElem (by simp [domRow])
    intro i a b
    simp [domRow, domP, List.getD_eq_getElem?_getD, hd2, hr]
  | true =>
  simp [e0, e3, e4, e14, e15, blks, recs, hd, l1, l2, repl_rep, pre_len, hbl, cut1 hd2, r1, hr]
  refine (without_ok (tb := tb) hok).runk ?_
  simp [e0, blks, recs]
  refine PC_loop0 (DJ2 tb bs d) ?_ (k := bs.length) ⟨0, by simp, by rw [pre_zero], ⟨by simp [e0], by simp [e3], by simp [e4], by simp [e14], by simp [e15]⟩, by simp, by simp, by simp, by simp⟩
  clear e0 e3 e4 e14 e15
  rintro m2 E L ⟨b, hbm, rfl, ⟨e0, e3, e4, e14, e15⟩, e5, e6, e33, e34⟩
  by_cases hbb : b < bs.length
  case neg =>
    have : b = bs.length := by omega
    subst this
    simp [e33, e34, e15, wrap_inc hd hb]
    refine dom_next (tb := tb) hd hdm (by rw [pre_full]; simp [domRow]) (by simp [e0]) (by simp [e3]) (by simp [e4]) (by simp [e14]) (by simp)
  have hb2 : b < (reachL bs (-1)).length := by rw [r1]; exact hbb
  have hb3 : b < (reachL bs d).length := by rw [reachL_len]; exact hbb
  have go : ∀ {E' : PEnv} {L' : List LObj} {x : Bool}, x = domP bs d b → L' = [.row 42 ((pre bs.length (fun d => blist 4 (domRow bs d)) nilS d).set d (.slc 1 0 bs.length bs.length)), .row 4 ((pre bs.length (fun b => pbool (domP bs d b)) (pbool false) b).set b (pbool x))] →
      DEnv tb bs d E' → E'.get 5 = some (pn d) → E'.get 6 = some (blist 4 (reachL bs d)) → E'.get 33 = some (pin bs.length) → E'.get 34 = some (pn (b + 1)) → ∃ k', k' < m2 ∧ DJ2 tb bs d k' E' L' := by
    rintro E' L' x rfl rfl a0 a5 a6 a33 a34
    exact ⟨m2 - 1, by omega, b + 1, by omega, by rw [pre_set (g := fun b => pbool (domP bs d b))], a0, a5, a6, a33, a34⟩
  cases hr2 : (reachL bs (-1))[b] with
  | false =>
    simp [e0, e3, e4, e5, e6, e14, e15, e33, e34, hd, hbb, pre_len, hbl, cut1 hb2, r1, hr2, wrap_inc hbb hb]
    refine go ?_ rfl ⟨by simp [e0], by simp [e3], by simp [e4], by simp [e14], by simp [e15]⟩ (by simp [e5]) (by simp [e6]) (by simp [e33]) (by simp)
    simp [domP, List.getD_eq_getElem?_getD, hb2, hr2]
  | true =>
    simp [e0, e3, e4, e5, e6, e14, e15, e33, e34, hd, hbb, pre_len, hbl, cut1 hb2, cut1 hb3, r1, hr2, wrap_inc hbb hb]
    refine go ?_ rfl ⟨by simp [e0], by simp [e3], by simp [e4], by simp [e14], by simp [e15]⟩ (by simp [e5]) (by simp [e6]) (by simp [e33]) (by simp)
    simp [domP, List.getD_eq_getElem?_getD, hb2, hr2, hd2, hr, hb3]
end Go.Den
/- The seat's functions, part I: Dominators. -/
namespace Go.Den
open IrD
attribute [local irreducible] T.get T.set
open Classical in
/-- one step of the search for the immediate dominator of b -/
noncomputable def idomStep (D : Nat → Nat → Bool) (b : Nat) (best : Int) (d : Nat) : Int := if d ≠ b ∧ D d b = true ∧ (best < 0 ∨ D best.toNat d = true) then (d : Int) else best
noncomputable def idomTo (D : Nat → Nat → Bool) (b n : Nat) : Int := (List.range n).foldl (idomStep D b) (-1)
theorem idomTo_succ {D : Nat → Nat → Bool} {b n : Nat} : idomTo D b (n + 1) = idomStep D b (idomTo D b n) n := by simp [idomTo, List.range_succ]
theorem idomTo_lt (D : Nat → Nat → Bool) (b n : Nat) : idomTo D b n = -1 ∨ ∃ k : Nat, k < n ∧ idomTo D b n = k := by
  induction n with
  | zero => exact .inl rfl
  | succ n ih =>
    rw [idomTo_succ]
    unfold idomStep
    split
    · exact .inr ⟨n, by omega, rfl⟩
    · rcases ih with h | ⟨k, h1, h2⟩
      · exact .inl h
      · exact .inr ⟨k, by omega, h2⟩
noncomputable def doms (bs : List Blk) : List Int := (List.range bs.length).map fun b => idomTo (domP bs) b bs.length

structure IEnv (tb : TypeId) (bs : List Blk) (b : Nat) (E : PEnv) : Prop where
  e0 : E.get 0 = some (blks tb bs)
  e3 : E.get 3 = some (.fz 42 bs.length ((domRows bs).map (blist 4)))
  e4 : E.get 4 = some (.slc 0 0 b b)
  e11 : E.get 11 = some (pin bs.length)
  e12 : E.get 12 = some (pn b)
def IJ1 (tb : TypeId) (bs : List Blk) (g : Nat → Int) (m : Nat) (E : PEnv) (L : List LObj) : Prop := ∃ b, b + m = bs.length ∧ L = [.row 3 (((List.range b).map g).map pin)] ∧ IEnv tb bs b E
def IJ2 (tb : TypeId) (bs : List Blk) (g : Nat → Int) (b : Nat) (m : Nat) (E : PEnv) (L : List LObj) : Prop := ∃ d, d + m = bs.length ∧ L = [.row 3 (((List.range b).map g).map pin)] ∧ IEnv tb bs b E ∧
  E.get 5 = some (pn b) ∧ E.get 6 = some (pin (idomTo (domP bs) b d)) ∧ E.get 16 = some (pin bs.length) ∧ E.get 17 = some (pn d)

set_option maxRecDepth 8000 in
set_option maxHeartbeats 4000000 in
theorem dominators_ok {tb : TypeId} {bs : List Blk} (hok : OkG bs) : PPd (.fn 17 [] []) [blks tb bs] (ints 3 (doms bs)) := by
  have hl := hok.len
  have hb : big bs.length := by unfold big; omega
  have hrl : (domRows bs).length = bs.length := by simp [domRows]
  have hrow : ∀ d (h : d < (domRows bs).length), (domRows bs)[d] = domRow bs d := fun d h => by simp [domRows]
  have hbr : ∀ d, blist 4 (domRow bs d) = .fz 4 bs.length ((domRow bs d).map pbool) := fun d => by simp [blist, domRow]
  have hdl : ∀ d, (domRow bs d).length = bs.length := fun d => by simp [domRow]
  have hdr : ∀ d b (h : b < (domRow bs d).length), (domRow bs d)[b] = domP bs d b := fun d b h => by simp [domRow]
  refine PP_code rfl rfl rfl (by simp) (by simp) (by simp) (PW_ok _ ?_)
  simp [ir17]
  refine (dominates_ok hok).runk ?_
  simp [blks, recs]
  refine PC.abs ((Abs.addNil 0 _ []).trans (Abs.viewL [0] [(0, blks tb bs), (3, .fz 42 bs.length ((domRows bs).map (blist 4))), (4, .slc 0 0 0 0), (11, pin bs.length), (12, pn 0)] (L' := [.row 3 []]) (by simp) (by simp) (fun i h => by omega) (by simp) (.cons ⟨_, rfl, .nilr⟩ .nil) ?_)) ?_
  · simp
    exact ⟨.same (by simp [blks, recs]), .same (by simp [noIdL_iff]), .nilr rfl rfl, .same rfl, .same rfl⟩
  refine PC_loop (IJ1 tb bs (fun b => idomTo (domP bs) b bs.length)) ?_ (k := bs.length) ⟨0, by simp, rfl, ⟨by simp [envOf], by simp [envOf], by simp [envOf], by simp [envOf], by simp [envOf]⟩⟩
  rintro m E L ⟨b, hbm, rfl, e0, e3, e4, e11, e12⟩
  refine PW_ok _ ?_
  by_cases hbb : b < bs.length
  case neg =>
    have : b = bs.length := by omega
    subst this
    simp [e4, e11, e12]
    exact Vw.frz rfl (by simp) (by simp) (by simp [ints, doms])
  simp [e0, e3, e4, e11, e12, hbb, blks, recs]
  refine PC_loop0 (IJ2 tb bs (fun b => idomTo (domP bs) b bs.length) b) ?_ (k := bs.length) ⟨0, by simp, by simp, ⟨by simp [e0], by simp [e3], by simp [e4], by simp [e11], by simp [e12]⟩, by simp, by simp [idomTo], by simp, by simp⟩
  clear e0 e3 e4 e11 e12
  rintro m2 E L ⟨d, hdm, rfl, ⟨e0, e3, e4, e11, e12⟩, e5, e6, e16, e17⟩
  by_cases hd : d < bs.length
  case neg =>
    have : d = bs.length := by omega
    subst this
    have rr : roomy (b + 1) 8 := roomy_of (by omega) (by omega)
    simp [e4, e6, e12, e16, e17, rr, wrap_inc hbb hb]
    refine ⟨m - 1, by omega, envOf [(0, blks tb bs), (3, .fz 42 bs.length ((domRows bs).map (blist 4))), (4, .slc 0 0 (b + 1) (b + 1)), (11, pin bs.length), (12, pn (b + 1))], [.row 3 (((List.range (b + 1)).map (fun b => idomTo (domP bs) b bs.length)).map pin)], ?_,
      b + 1, by omega, rfl, ⟨by simp [envOf], by simp [envOf], by simp [envOf], by simp [envOf], by simp [envOf]⟩⟩
    refine Abs.viewL [2] _ (by simp) (by simp) (fun i h => by omega) (by simp) (.cons ⟨_, rfl, .row ?_⟩ .nil) ?_
    · rw [List.range_succ]
      simp only [List.map_append, List.map_map, List.map_cons, List.map_nil]
      exact VwL.same (by simp)
    · simp [e0, e3, e11]
      exact ⟨.same (by simp), .same (by simp [noIdL_iff]), .slc rfl, .same rfl, .same rfl⟩
  have next : ∀ {E' : PEnv} {best : Int}, best = idomTo (domP bs) b (d + 1) → IEnv tb bs b E' → E'.get 5 = some (pn b) → E'.get 6 = some (pin best) → E'.get 16 = some (pin bs.length) → E'.get 17 = some (pn (d + 1)) →
      ∃ k', k' < m2 ∧ IJ2 tb bs (fun b => idomTo (domP bs) b bs.length) b k' E' [.row 3 (((List.range b).map (fun b => idomTo (domP bs) b bs.length)).map pin)] := by
    rintro E' best rfl a0 a5 a6 a16 a17
    exact ⟨m2 - 1, by omega, d + 1, by omega, rfl, a0, a5, a6, a16, a17⟩
  by_cases hdb : d = b
  · subst hdb
    simp [e0, e3, e4, e5, e6, e11, e12, e16, e17, hd, wrap_inc hd hb]
    simpa using next (E' := _) (best := idomTo (domP bs) d d) (by rw [idomTo_succ]; simp [idomStep]) ⟨by simp [e0], by simp [e3], by simp [e4], by simp [e11], by simp [e12]⟩ (by simp [e5]) (by simp [e6]) (by simp [e16]) (by simp)
  have hdb' : ¬ (d : Int) = b := by omega
  have c1 : cut ((domRows bs).map (blist 4)) d 1 = [blist 4 (domRow bs d)] := by rw [cut1 (by rw [hrl]; exact hd), hrow]
  have c2 : cut ((domRow bs d).map pbool) b 1 = [pbool (domP bs d b)] := by rw [cut1 (by rw [hdl]; exact hbb), hdr]
  cases hD : domP bs d b with
  | false =>
    simp [e0, e3, e4, e5, e6, e11, e12, e16, e17, hd, hdb, hdb', hbb, c1, c2, hbr, hD, wrap_inc hd hb]
    simpa using next (E' := _) (best := idomTo (domP bs) b d) (by rw [idomTo_succ]; simp [idomStep, hD]) ⟨by simp [e0], by simp [e3], by simp [e4], by simp [e11], by simp [e12]⟩ (by simp [e5]) (by simp [e6]) (by simp [e16]) (by simp)
  | true =>
  rcases idomTo_lt (domP bs) b d with hbest | ⟨k, hk, hbest⟩
  · rw [hbest] at e6
    simp [e0, e3, e4, e5, e6, e11, e12, e16, e17, hd, hdb, hdb', hbb, c1, c2, hbr, hD, wrap_inc hd hb]
    simpa using next (E' := _) (best := (d : Int)) (by rw [idomTo_succ]; simp [idomStep, hD, hdb, hbest]) ⟨by simp [e0], by simp [e3], by simp [e4], by simp [e11], by simp [e12]⟩ (by simp [e5]) (by simp) (by simp [e16]) (by simp)
  · rw [hbest] at e6
    have hkn : k < bs.length := by omega
    have c3 : cut ((domRows bs).map (blist 4)) k 1 = [blist 4 (domRow bs k)] := by rw [cut1 (by rw [hrl]; exact hkn), hrow]
    have c4 : cut ((domRow bs k).map pbool) d 1 = [pbool (domP bs k d)] := by rw [cut1 (by rw [hdl]; exact hd), hdr]
    have hk0 : ¬ (k : Int) < 0 := by omega
    cases hD2 : domP bs k d with
    | false =>
      simp [e0, e3, e4, e5, e6, e11, e12, e16, e17, hd, hdb, hdb', hbb, hkn, c1, c2, c3, c4, hbr, hD, hD2, hk0, wrap_inc hd hb]
      simpa using next (E' := _) (best := (k : Int)) (by rw [idomTo_succ]; simp [idomStep, hD, hdb, hbest, hk0, hD2]) ⟨by simp [e0], by simp [e3], by simp [e4], by simp [e11], by simp [e12]⟩ (by simp [e5]) (by simp [e6]) (by simp [e16]) (by simp)
    | true =>
      simp [e0, e3, e4, e5, e6, e11, e12, e16, e17, hd, hdb, hdb', hbb, hkn, c1, c2, c3, c4, hbr, hD, hD2, hk0, wrap_inc hd hb]
      simpa using next (E' := _) (best := (d : Int)) (by rw [idomTo_succ]; simp [idomStep, hD, hdb, hbest, hk0, hD2]) ⟨by simp [e0], by simp [e3], by simp [e4], by simp [e11], by simp [e12]⟩ (by simp [e5]) (by simp) (by simp [e16]) (by simp)
end Go.Den
/- The seat's functions, part J: Dominators of the reference. -/
namespace Go.Den
open IrD
attribute [local irreducible] T.get T.set
noncomputable def idomR (bs : List Blk) (b : Nat) : Int := if b = 0 then -1 else idomTo (domB bs) b bs.length
noncomputable def domsR (bs : List Blk) : List Int := (List.range bs.length).map (idomR bs)
structure KEnv (tb : TypeId) (bs : List Blk) (b : Nat) (E : PEnv) : Prop where
  e0 : E.get 0 = some (blks tb bs)
  e3 : E.get 3 = some (.slc 0 0 b b)
  e4 : E.get 4 = some (pn b)
def KJ1 (tb : TypeId) (bs : List Blk) (m : Nat) (E : PEnv) (L : List LObj) : Prop := ∃ b, b + m = bs.length ∧ L = [.row 3 (((List.range b).map (idomR bs)).map pin)] ∧ KEnv tb bs b E
def KJ2 (tb : TypeId) (bs : List Blk) (b : Nat) (m : Nat) (E : PEnv) (L : List LObj) : Prop := ∃ d, d + m = bs.length ∧ (b = 0 → d = 0) ∧ L = [.row 3 (((List.range b).map (idomR bs)).map pin)] ∧ KEnv tb bs b E ∧
  E.get 5 = some (pin (idomTo (domB bs) b d)) ∧ E.get 6 = some (pn d)
theorem k_next {tb : TypeId} {bs : List Blk} {b m : Nat} {E : PEnv} {x : Int} (hbb : b < bs.length) (hbm : b + m = bs.length) (hx : x = idomR bs b) (e0 : E.get 0 = some (blks tb bs)) (e3 : E.get 3 = some (.slc 2 0 (b + 1) (b + 1))) (e4 : E.get 4 = some (pn (b + 1))) :
    ∃ k', k' < m ∧ ∃ E' L', Abs 0 E [.dead, .row 3 [pin x], .row 3 (((List.range b).map (idomR bs)).map pin ++ [pin x])] E' L' ∧ KJ1 tb bs k' E' L' := by
  subst hx
  refine ⟨m - 1, by omega, envOf [(0, blks tb bs), (3, .slc 0 0 (b + 1) (b + 1)), (4, pn (b + 1))], [.row 3 (((List.range (b + 1)).map (idomR bs)).map pin)], ?_, b + 1, by omega, rfl, ⟨by simp [envOf], by simp [envOf], by simp [envOf]⟩⟩
  refine Abs.viewL [2] _ (by simp) (by simp) (fun i h => by omega) (by simp) (.cons ⟨_, rfl, .row ?_⟩ .nil) ?_
  · rw [List.range_succ]
    simp only [List.map_append, List.map_map, List.map_cons, List.map_nil]
    exact VwL.same (by simp)
  · simp [e0, e3, e4]
    exact ⟨.same (by simp), .slc rfl, .same rfl⟩

set_option maxRecDepth 8000 in
set_option maxHeartbeats 4000000 in
theorem dominatorsR_ok {tb : TypeId} {bs : List Blk} (hok : OkG bs) : PPd (.fn 18 [] []) [blks tb bs] (ints 3 (domsR bs)) := by
  have hl := hok.len
  have hb : big bs.length := by unfold big; omega
  refine PP_code rfl rfl rfl (by simp) (by simp) (by simp) (PW_ok _ ?_)
  simp [ir18]
  refine PC_loop (KJ1 tb bs) ?_ (k := bs.length) ⟨0, by simp, by simp, ⟨by simp, by simp, by simp⟩⟩
  rintro m E L ⟨b, hbm, rfl, e0, e3, e4⟩
  refine PW_ok _ ?_
  by_cases hbb : b < bs.length
  case neg =>
    have : b = bs.length := by omega
    subst this
    simp [e0, e3, e4, blks, recs]
    exact Vw.frz rfl (by simp) (by simp) (by simp [ints, domsR])
  simp [e0, e3, e4, hbb, blks, recs]
  refine PC_loop0 (KJ2 tb bs b) ?_ (k := bs.length) ⟨0, by simp, fun _ => rfl, by simp, ⟨by simp [e0], by simp [e3], by simp [e4]⟩, by simp [idomTo], by simp⟩
  clear e0 e3 e4
  rintro m2 E L ⟨d, hdm, hb0, rfl, ⟨e0, e3, e4⟩, e5, e6⟩
  have rr : roomy (b + 1) 8 := roomy_of (by omega) (by omega)
  by_cases hb1 : b = 0
  · have hd0 := hb0 hb1
    subst hd0; subst hb1
    simp [e0, e3, e4, e5, e6, hbb, blks, recs, rr, wrap_inc hbb hb]
    exact k_next hbb hbm (by simp [idomTo, idomR]) (by simp [e0]) (by simp) (by simp; rfl)
  have hb2 : 0 < b := by omega
  by_cases hd : d < bs.length
  case neg =>
    have : d = bs.length := by omega
    subst this
    simp [e0, e3, e4, e5, e6, blks, recs, rr, wrap_inc hbb hb]
    simpa using k_next (E := _) (x := idomTo (domB bs) b bs.length) hbb hbm (by simp [idomR, hb1]) (by simp [e0]) (by simp) (by simp)
  have next : ∀ {E' : PEnv} {best : Int}, best = idomTo (domB bs) b (d + 1) → KEnv tb bs b E' → E'.get 5 = some (pin best) → E'.get 6 = some (pn (d + 1)) →
      ∃ k', k' < m2 ∧ KJ2 tb bs b k' E' [.row 3 (((List.range b).map (idomR bs)).map pin)] := by
    rintro E' best rfl a0 a5 a6
    exact ⟨m2 - 1, by omega, d + 1, by omega, fun h => absurd h hb1, rfl, a0, a5, a6⟩
  by_cases hdb : d = b
  · subst hdb
    simp [e0, e3, e4, e5, e6, hd, hb2, blks, recs, wrap_inc hd hb]
    simpa using next (E' := _) (best := idomTo (domB bs) d d) (by rw [idomTo_succ]; simp [idomStep]) ⟨by simp [e0], by simp [e3], by simp [e4]⟩ (by simp [e5]) (by simp)
  have hdb' : ¬ (d : Int) = b := by omega
  simp [e0, e3, e4, e5, e6, hd, hb2, blks, recs, hdb, hdb', wrap_inc hd hb]
  refine (domR_ok (tb := tb) hok hbb).runk ?_
  cases hD : domB bs d b with
  | false =>
    simp [e0, e3, e4, e5, e6, wrap_inc hd hb]
    simpa using next (E' := _) (best := idomTo (domB bs) b d) (by rw [idomTo_succ]; simp [idomStep, hD]) ⟨by simp [e0], by simp [e3], by simp [e4]⟩ (by simp [e5]) (by simp)
  | true =>
  rcases idomTo_lt (domB bs) b d with hbest | ⟨k, hk, hbest⟩
  · rw [hbest] at e5
    simp [e0, e3, e4, e5, e6, wrap_inc hd hb]
    simpa using next (E' := _) (best := (d : Int)) (by rw [idomTo_succ]; simp [idomStep, hD, hdb, hbest]) ⟨by simp [e0], by simp [e3], by simp [e4]⟩ (by simp) (by simp)
  · rw [hbest] at e5
    have hk0 : ¬ (k : Int) < 0 := by omega
    simp [e0, e3, e4, e5, e6, hk0, wrap_inc hd hb, blks, recs]
    refine (domR_ok (tb := tb) (d := k) hok hd).runk ?_
    cases hD2 : domB bs k d with
    | false =>
      simp [e0, e3, e4, e5, e6, wrap_inc hd hb]
      simpa using next (E' := _) (best := (k : Int)) (by rw [idomTo_succ]; simp [idomStep, hD, hdb, hbest, hk0, hD2]) ⟨by simp [e0], by simp [e3], by simp [e4]⟩ (by simp [e5]) (by simp)
    | true =>
      simp [e0, e3, e4, e5, e6, wrap_inc hd hb]
      simpa using next (E' := _) (best := (d : Int)) (by rw [idomTo_succ]; simp [idomStep, hD, hdb, hbest, hk0, hD2]) ⟨by simp [e0], by simp [e3], by simp [e4]⟩ (by simp) (by simp)
end Go.Den
/- The law of natural loops. -/
namespace Go.Den
/-! ### ascending lists -/
abbrev Asc (l : List Int) : Prop := l.Pairwise (· < ·)
theorem asc_ext : ∀ {l l' : List Int}, Asc l → Asc l' → (∀ x, x ∈ l ↔ x ∈ l') → l = l' := by
  intro l
  induction l with
  | nil => intro l' _ _ h; cases l' with
    | nil => rfl
    | cons a l' => have := (h a).2 (by simp); simp at this
  | cons a l ih =>
    intro l' h1 h2 h
    cases l' with
    | nil => have := (h a).1 (by simp); simp at this
    | cons b l' =>
      rw [Asc, List.pairwise_cons] at h1 h2
      have hab : a = b := by
        have ha := (h a).1 (by simp)
        have hb := (h b).2 (by simp)
        rcases List.mem_cons.1 ha with e | e
        · exact e
        · rcases List.mem_cons.1 hb with e' | e'
          · exact e'.symm
          · have := h1.1 b e'; have := h2.1 a e; omega
      subst hab
      congr 1
      refine ih h1.2 h2.2 fun x => ⟨fun hx => ?_, fun hx => ?_⟩
      · rcases List.mem_cons.1 ((h x).1 (List.mem_cons_of_mem _ hx)) with e | e
        · subst e; have := h1.1 x hx; omega
        · exact e
      · rcases List.mem_cons.1 ((h x).2 (List.mem_cons_of_mem _ hx)) with e | e
        · subst e; have := h2.1 x hx; omega
        · exact e
theorem putL_mem {l : List Int} {n x : Int} : x ∈ putL l n ↔ x ∈ l ∨ x = n := by
  unfold putL
  split
  · rename_i h
    exact ⟨.inl, fun h' => h'.elim id (fun e => e ▸ h)⟩
  · rw [List.mem_append, List.mem_cons]
    conv => rhs; rw [← List.takeWhile_append_dropWhile (p := fun y => decide (y < n)) (l := l), List.mem_append]
    constructor
    · rintro (h | h | h)
      · exact .inl (.inl h)
      · exact .inr h
      · exact .inl (.inr h)
    · rintro ((h | h) | h)
      · exact .inl h
      · exact .inr (.inr h)
      · exact .inr (.inl h)
theorem dropWhile_gt : ∀ {l : List Int} {n : Int}, Asc l → n ∉ l → ∀ x ∈ l.dropWhile (fun y => decide (y < n)), n < x := by
  intro l
  induction l with
  | nil => intro n _ _ x hx; simp at hx
  | cons a l ih =>
    intro n h hn x hx
    rw [Asc, List.pairwise_cons] at h
    simp only [List.mem_cons, not_or] at hn
    rw [List.dropWhile_cons] at hx
    split at hx
    · exact ih h.2 hn.2 x hx
    · rename_i ha
      simp only [decide_eq_true_eq] at ha
      rcases List.mem_cons.1 hx with e | e
      · subst e; omega
      · have := h.1 x e; omega
theorem takeWhile_lt {n : Int} : ∀ {l : List Int}, ∀ x ∈ l.takeWhile (fun y => decide (y < n)), x < n := by
  intro l
  induction l with
  | nil => intro x hx; simp at hx
  | cons a l ih =>
    intro x hx
    rw [List.takeWhile_cons] at hx
    split at hx
    · rename_i ha
      rcases List.mem_cons.1 hx with e | e
      · subst e; simpa using ha
      · exact ih x e
    · simp at hx
theorem putL_asc {l : List Int} {n : Int} (h : Asc l) : Asc (putL l n) := by
  unfold putL
  split
  · exact h
  · rename_i hn
    have h' := h
    rw [Asc, ← List.takeWhile_append_dropWhile (p := fun y => decide (y < n)) (l := l), List.pairwise_append] at h'
    rw [Asc, List.pairwise_append, List.pairwise_cons]
    refine ⟨h'.1, ⟨dropWhile_gt h hn, h'.2.1⟩, fun a ha b hb => ?_⟩
    rcases List.mem_cons.1 hb with e | e
    · subst e; exact takeWhile_lt a ha
    · have := takeWhile_lt a ha; have := dropWhile_gt h hn b e; omega
theorem putL_len {l : List Int} {n : Int} : (putL l n).length ≤ l.length + 1 := by
  unfold putL
  split
  · omega
  · have h1 : (l.takeWhile (fun y => decide (y < n))).length + (l.dropWhile (fun y => decide (y < n))).length = l.length := by rw [← List.length_append, List.takeWhile_append_dropWhile]
    simp only [List.length_append, List.length_cons]
    omega
theorem putL_ne {l : List Int} {n : Int} : putL l n ≠ [] := by
  intro h
  have := (putL_mem (l := l) (n := n) (x := n)).2 (.inr rfl)
  rw [h] at this; simp at this

/-! ### natural loops -/
inductive InL (bs : List Blk) (h : Nat) : Nat → Prop
  | src {b : Nat} : b < bs.length → backB bs b h = true → InL bs h b
  | head : InL bs h h
  | step {b x : Nat} : InL bs h x → x ≠ h → (hb : b < bs.length) → (reachL bs (-1))[b]? = some true → (x : Int) ∈ bs[b].next → InL bs h b
def hasLoop (bs : List Blk) (h : Nat) : Prop := ∃ b, b < bs.length ∧ backB bs b h = true
open Classical in
noncomputable def loopL (bs : List Blk) (h : Nat) : List Int := ((List.range bs.length).filter fun k => decide (InL bs h k)).map fun (k : Nat) => (k : Int)
structure Lp where
  head : Int
  blocks : List Int
def encL (x : Lp) : List PV := [pin x.head, ints 3 x.blocks]
@[simp] theorem encL_len (b : Lp) : (encL b).length = 2 := rfl
@[simp] theorem encL_nl (b : Lp) : allNl (encL b) := by simp [encL, ints]
@[simp] theorem encL_noId (b : Lp) : noIdL (encL b) = true := by simp [encL]
open Classical in
noncomputable def loopsTo (bs : List Blk) (n : Nat) : List Lp := ((List.range n).filter fun h => decide (hasLoop bs h)).map fun (h : Nat) => ⟨h, loopL bs h⟩
theorem loopsTo_succ {bs : List Blk} {n : Nat} (h : hasLoop bs n) : loopsTo bs (n + 1) = loopsTo bs n ++ [⟨n, loopL bs n⟩] := by simp [loopsTo, List.range_succ, h]
theorem loopsTo_skip {bs : List Blk} {n : Nat} (h : ¬ hasLoop bs n) : loopsTo bs (n + 1) = loopsTo bs n := by simp [loopsTo, List.range_succ, h]
theorem InL.lt {bs : List Blk} {h k : Nat} (hh : h < bs.length) (hi : InL bs h k) : k < bs.length := by
  cases hi with
  | src hb _ => exact hb
  | head => exact hh
  | step _ _ hb _ _ => exact hb
theorem loopL_asc (bs : List Blk) (h : Nat) : Asc (loopL bs h) := by
  unfold loopL Asc
  rw [List.pairwise_map]
  refine List.Pairwise.filter _ ?_
  exact List.pairwise_lt_range.imp fun h => by omega
theorem loopL_mem {bs : List Blk} {h : Nat} {x : Int} : x ∈ loopL bs h ↔ ∃ k : Nat, x = k ∧ k < bs.length ∧ InL bs h k := by
  simp only [loopL, List.mem_map, List.mem_filter, List.mem_range, decide_eq_true_eq]
  exact ⟨fun ⟨k, ⟨a, b⟩, c⟩ => ⟨k, c.symm, a, b⟩, fun ⟨k, a, b, c⟩ => ⟨k, ⟨b, c⟩, a.symm⟩⟩
theorem loopL_of {bs : List Blk} {h : Nat} {l : List Int} (ha : Asc l) (hh : h < bs.length) (h1 : ∀ x ∈ l, ∃ k : Nat, x = k ∧ InL bs h k) (h2 : ∀ k : Nat, InL bs h k → (k : Int) ∈ l) : l = loopL bs h :=
  asc_ext ha (loopL_asc bs h) fun x => by
    rw [loopL_mem]
    exact ⟨fun hx => let ⟨k, a, b⟩ := h1 x hx; ⟨k, a, b.lt hh, b⟩, fun ⟨k, a, _, c⟩ => a ▸ h2 k c⟩
end Go.Den
/- The seat's functions, part M: Loops of the reference. -/
namespace Go.Den
open IrD
attribute [local irreducible] T.get T.set

def miss (n : Nat) (l : List Int) : Nat := (List.range n).countP fun (k : Nat) => decide ((k : Int) ∉ l)
theorem countP_lt {α : Type} {p q : α → Bool} : ∀ {l : List α} {a : α}, (∀ x, q x = true → p x = true) → a ∈ l → p a = true → q a = false → l.countP q < l.countP p := by
  intro l
  induction l with
  | nil => intro a _ h; simp at h
  | cons b l ih =>
    intro a h ha hp hq
    have hle : l.countP q ≤ l.countP p := List.countP_mono_left fun x _ => h x
    rcases List.mem_cons.1 ha with e | e
    · subst e; simp [List.countP_cons, hp, hq]; omega
    · have := ih h e hp hq
      simp only [List.countP_cons]
      cases hqb : q b with
      | false => simp; omega
      | true => simp [h b hqb]; omega
theorem miss_put {n b : Nat} {l : List Int} (hb : b < n) (hn : (b : Int) ∉ l) : miss n (putL l b) < miss n l :=
  countP_lt (a := b) (fun x hx => by simp only [decide_eq_true_eq, putL_mem] at hx ⊢; exact fun h => hx (.inl h)) (by simpa using hb) (by simpa using hn) (by simp [putL_mem])
theorem asc_len {n : Nat} {l : List Int} (h : Asc l) (hb : ∀ x ∈ l, ∃ k : Nat, x = k ∧ k < n) : l.length ≤ n := by
  have e : l = ((List.range n).filter fun (k : Nat) => decide ((k : Int) ∈ l)).map fun (k : Nat) => (k : Int) := by
    refine asc_ext h ?_ fun x => ?_
    · unfold Asc
      rw [List.pairwise_map]
      exact (List.Pairwise.filter _ (List.pairwise_lt_range)).imp fun h => by omega
    · simp only [List.mem_map, List.mem_filter, List.mem_range, decide_eq_true_eq]
      constructor
      · intro hx
        obtain ⟨k, rfl, hk⟩ := hb x hx
        exact ⟨k, ⟨hk, hx⟩, rfl⟩
      · rintro ⟨k, ⟨_, h2⟩, rfl⟩; exact h2
  rw [e, List.length_map]
  exact Nat.le_trans (List.length_filter_le _ _) (by simp)

/-- the sources of edges back to h, below b -/
structure Srcs (bs : List Blk) (h b : Nat) (l : List Int) : Prop where
  asc : Asc l
  mem : ∀ x, x ∈ l ↔ ∃ k : Nat, x = k ∧ k < b ∧ backB bs k h = true
theorem Srcs.len {bs : List Blk} {h b : Nat} {l : List Int} (hs : Srcs bs h b l) : l.length ≤ b := asc_len hs.asc fun x hx => let ⟨k, a, c, _⟩ := (hs.mem x).1 hx; ⟨k, a, c⟩
theorem Srcs.zero {bs : List Blk} {h : Nat} : Srcs bs h 0 [] := ⟨.nil, fun x => by simp⟩
theorem Srcs.skip {bs : List Blk} {h b : Nat} {l : List Int} (hs : Srcs bs h b l) (hb : backB bs b h = false) : Srcs bs h (b + 1) l :=
  ⟨hs.asc, fun x => (hs.mem x).trans ⟨fun ⟨k, a, c, d⟩ => ⟨k, a, by omega, d⟩, fun ⟨k, a, c, d⟩ => ⟨k, a, (by
    rcases Nat.lt_or_ge k b with h | h
    · exact h
    · have : k = b := by omega
      subst this; rw [hb] at d; cases d), d⟩⟩⟩
theorem Srcs.put {bs : List Blk} {h b : Nat} {l : List Int} (hs : Srcs bs h b l) (hb : backB bs b h = true) : Srcs bs h (b + 1) (putL l b) :=
  ⟨putL_asc hs.asc, fun x => by
    rw [putL_mem, hs.mem]
    constructor
    · rintro (⟨k, a, c, d⟩ | rfl)
      · exact ⟨k, a, by omega, d⟩
      · exact ⟨b, rfl, by omega, hb⟩
    · rintro ⟨k, a, c, d⟩
      rcases Nat.lt_or_ge k b with h | h
      · exact .inl ⟨k, a, h, d⟩
      · have : k = b := by omega
        subst this; exact .inr a⟩
/-- a part of the loop at h -/
structure LIn (bs : List Blk) (h : Nat) (l : List Int) : Prop where
  asc : Asc l
  sound : ∀ x ∈ l, ∃ k : Nat, x = k ∧ InL bs h k
  head : (h : Int) ∈ l
  src : ∀ b, b < bs.length → backB bs b h = true → (b : Int) ∈ l
theorem LIn.len {bs : List Blk} {h : Nat} {l : List Int} (hh : h < bs.length) (hl : LIn bs h l) : l.length ≤ bs.length := asc_len hl.asc fun x hx => let ⟨k, a, c⟩ := hl.sound x hx; ⟨k, a, c.lt hh⟩
theorem Srcs.lin {bs : List Blk} {h : Nat} {l : List Int} (hs : Srcs bs h bs.length l) : LIn bs h (putL l h) :=
  ⟨putL_asc hs.asc, fun x hx => by
    rcases putL_mem.1 hx with h1 | h1
    · obtain ⟨k, a, c, d⟩ := (hs.mem x).1 h1; exact ⟨k, a, .src c d⟩
    · exact ⟨h, h1, .head⟩, putL_mem.2 (.inr rfl), fun b hb hk => putL_mem.2 (.inl ((hs.mem b).2 ⟨b, rfl, hb, hk⟩))⟩
theorem LIn.put {bs : List Blk} {h b : Nat} {l : List Int} (hl : LIn bs h l) (hb : b < bs.length) (hr : (reachL bs (-1))[b]? = some true) {x : Int} (hx : x ∈ bs[b].next) (hxh : x ≠ h) (hxl : x ∈ l) : LIn bs h (putL l b) :=
  ⟨putL_asc hl.asc, fun y hy => by
    rcases putL_mem.1 hy with h1 | h1
    · exact hl.sound y h1
    · obtain ⟨k, a, c⟩ := hl.sound x hxl
      subst a
      exact ⟨b, h1, .step c (fun e => hxh (by rw [e])) hb hr hx⟩, putL_mem.2 (.inl hl.head), fun k hk hs => putL_mem.2 (.inl (hl.src k hk hs))⟩
def closedL (bs : List Blk) (h : Nat) (l : List Int) (b : Nat) : Prop := (reachL bs (-1))[b]? = some true → ∀ hb : b < bs.length, ∀ x ∈ bs[b].next, x ≠ (h : Int) → x ∈ l → (b : Int) ∈ l
theorem LIn.closed {bs : List Blk} {h : Nat} {l : List Int} (hh : h < bs.length) (hl : LIn bs h l) (hc : ∀ b, b < bs.length → closedL bs h l b) : l = loopL bs h :=
  loopL_of hl.asc hh hl.sound fun k hk => by
    induction hk with
    | src hb hk => exact hl.src _ hb hk
    | head => exact hl.head
    | step _ hxh hb hr hx ih => exact hc _ hb hr hb _ hx (by omega) ih

structure MPass (bs : List Blk) (h : Nat) (lp l : List Int) (ag : Bool) (b : Nat) : Prop where
  lin : LIn bs h l
  same : ag = false → l = lp ∧ ∀ j, j < b → closedL bs h l j
  less : ag = true → miss bs.length l < miss bs.length lp
structure MPass2 (bs : List Blk) (h : Nat) (lp l : List Int) (ag : Bool) (b k : Nat) : Prop extends MPass bs h lp l ag b where
  part : ag = false → (reachL bs (-1))[b]? = some true → ∀ hb : b < bs.length, ∀ x ∈ bs[b].next.take k, x ≠ (h : Int) → x ∈ l → (b : Int) ∈ l
theorem MPass.begin {bs : List Blk} {h : Nat} {lp l : List Int} {ag : Bool} {b : Nat} (hp : MPass bs h lp l ag b) : MPass2 bs h lp l ag b 0 := ⟨hp, fun _ _ _ x hx => by simp at hx⟩
theorem MPass2.done {bs : List Blk} {h : Nat} {lp l : List Int} {ag : Bool} {b k : Nat} (hb : b < bs.length) (hp : MPass2 bs h lp l ag b k) (hk : bs[b].next.length ≤ k) : MPass bs h lp l ag (b + 1) := by
  refine ⟨hp.lin, fun ha => ⟨(hp.same ha).1, fun j hj => ?_⟩, hp.less⟩
  by_cases e : j = b
  · subst e
    intro hr _ x hx hxh hxl
    exact hp.part ha hr hb x (by rw [List.take_of_length_le hk]; exact hx) hxh hxl
  · exact (hp.same ha).2 j (by omega)
theorem MPass2.skip {bs : List Blk} {h : Nat} {lp l : List Int} {ag : Bool} {b k : Nat} (hb : b < bs.length) (hk : k < bs[b].next.length) (hp : MPass2 bs h lp l ag b k) (hs : (reachL bs (-1))[b]? = some true → bs[b].next[k] ≠ (h : Int) → bs[b].next[k] ∈ l → (b : Int) ∈ l) : MPass2 bs h lp l ag b (k + 1) := by
  refine ⟨hp.toMPass, fun ha hr _ x hx h1 h2 => ?_⟩
  rw [List.take_succ_eq_append_getElem hk] at hx
  rcases List.mem_append.1 hx with hx | hx
  · exact hp.part ha hr hb x hx h1 h2
  · simp at hx; subst hx; exact hs hr h1 h2
theorem MPass2.add {bs : List Blk} {h : Nat} {lp l : List Int} {ag : Bool} {b k : Nat} (hb : b < bs.length) (hk : k < bs[b].next.length) (hp : MPass2 bs h lp l ag b k) (hr : (reachL bs (-1))[b]? = some true) (h1 : bs[b].next[k] ≠ (h : Int)) (h2 : bs[b].next[k] ∈ l) (h3 : (b : Int) ∉ l) : MPass2 bs h lp (putL l b) true b (k + 1) := by
  refine ⟨⟨hp.lin.put hb hr (List.getElem_mem hk) h1 h2, (fun ha => by cases ha), fun _ => ?_⟩, (fun ha => by cases ha)⟩
  have hm := miss_put hb h3
  cases ag with
  | true => have := hp.less rfl; omega
  | false => have := (hp.same rfl).1; subst this; exact hm
end Go.Den
