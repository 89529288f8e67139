/- Part 4 of the proof: an executor over a compiled form of the functions of this program, that it is right, and what it computes (see the last part). -/
import Derived.Test.YtlcgnmdlggfelaaDoorK3
import Derived.Laws.Strings
import Derived.Laws.RangeString
set_option linter.all false
namespace Go.Den.IrD
open Go Go.Den
abbrev I (n : Int) : Value := .int .i64 n
abbrev S (l : List UInt8) : Value := .string ⟨l.toArray⟩
abbrev Fn (f : Nat) : Value := .func (.func f) #[] #[]
abbrev t (n : Nat) : Arg := .tmp n
abbrev v (x : Value) : Arg := .val x

def ir5 : IFunc := ⟨62, [.tmp 4], (.seq (.ops [⟨some 2, none, .box 53 (t 0)⟩, ⟨some 4, none, .mov (v (.bool false))⟩]) (.seq (.seq (.ops [⟨some 13, none, .load (some 2) (t 2)⟩, ⟨some 14, none, .call (v (Fn 23)) [(t 13), (v (I 70))]⟩, ⟨some 15, none, .un .not (t 14)⟩]) (.cond (t 15) (.seq (.ops [⟨some 16, none, .call (v (Fn 8)) []⟩, ⟨some 4, none, .mov (t 16)⟩]) .ret) .skip)) (.seq (.ops [⟨some 18, none, .load (some 2) (t 2)⟩, ⟨some 19, none, .mov (t 1)⟩, ⟨some 20, none, .call (v (Fn 24)) [(t 18), (t 19)]⟩, ⟨some 17, none, .mov (t 20)⟩, ⟨some 21, none, .extract (t 17) 0⟩, ⟨some 22, none, .extract (t 17) 1⟩, ⟨some 5, none, .mov (t 21)⟩, ⟨some 6, none, .mov (t 22)⟩]) (.seq (.ops [⟨some 24, none, .load (some 2) (t 2)⟩, ⟨some 25, none, .mov (t 1)⟩, ⟨some 26, none, .call (v (Fn 25)) [(t 24), (t 25)]⟩, ⟨some 23, none, .mov (t 26)⟩, ⟨some 27, none, .extract (t 23) 0⟩, ⟨some 28, none, .extract (t 23) 1⟩, ⟨some 7, none, .mov (t 27)⟩, ⟨some 8, none, .mov (t 28)⟩]) (.seq (.ops [⟨some 30, none, .load (some 2) (t 2)⟩, ⟨some 31, none, .mov (t 1)⟩, ⟨some 32, none, .call (v (Fn 26)) [(t 30), (t 31)]⟩, ⟨some 29, none, .mov (t 32)⟩, ⟨some 33, none, .extract (t 29) 0⟩, ⟨some 34, none, .extract (t 29) 1⟩, ⟨some 9, none, .mov (t 33)⟩, ⟨some 10, none, .mov (t 34)⟩]) (.seq (.ops [⟨some 36, none, .load (some 2) (t 2)⟩, ⟨some 37, none, .mov (t 1)⟩, ⟨some 38, none, .call (v (Fn 27)) [(t 36), (t 37)]⟩, ⟨some 35, none, .mov (t 38)⟩, ⟨some 39, none, .extract (t 35) 0⟩, ⟨some 40, none, .extract (t 35) 1⟩, ⟨some 11, none, .mov (t 39)⟩, ⟨some 12, none, .mov (t 40)⟩]) (.seq (.ops [⟨some 41, none, .mov (t 5)⟩, ⟨some 42, none, .mov (t 7)⟩, ⟨some 43, none, .call (v (Fn 28)) [(t 41), (t 42)]⟩, ⟨some 44, none, .mov (t 43)⟩, ⟨some 45, some (44, true), .mov (t 6)⟩, ⟨some 46, some (44, true), .mov (t 8)⟩, ⟨some 47, some (44, true), .arith .eql (t 45) (t 46)⟩, ⟨some 48, none, .pick (t 44) (t 47) (v (.bool false))⟩, ⟨some 49, none, .mov (t 48)⟩, ⟨some 50, some (49, true), .mov (t 9)⟩, ⟨some 51, some (49, true), .mov (t 11)⟩, ⟨some 52, some (49, true), .call (v (Fn 28)) [(t 50), (t 51)]⟩, ⟨some 53, none, .pick (t 49) (t 52) (v (.bool false))⟩, ⟨some 54, none, .mov (t 53)⟩, ⟨some 55, some (54, true), .mov (t 10)⟩, ⟨some 56, some (54, true), .mov (t 12)⟩, ⟨some 57, some (54, true), .arith .eql (t 55) (t 56)⟩, ⟨some 58, none, .pick (t 54) (t 57) (v (.bool false))⟩, ⟨some 59, none, .mov (t 58)⟩, ⟨some 60, some (59, true), .call (v (Fn 8)) []⟩, ⟨some 61, none, .pick (t 59) (t 60) (v (.bool false))⟩, ⟨some 4, none, .mov (t 61)⟩]) .ret)))))))⟩
def ir8 : IFunc := ⟨54, [.tmp 0], (.seq (.ops [⟨some 0, none, .mov (v (.bool false))⟩]) (.seq (.ops [⟨some 5, none, .build [(I 0), (I 0), (I 0), (I 0), (I 0), (S []), (.slice none 0 0)] [(0, 1, (v (I 1))), (2, 1, (v (I 3)))]⟩, ⟨some 6, none, .build [(I 0), (I 0), (I 0), (I 0), (I 0), (S []), (.slice none 0 0)] [(0, 1, (v (I 20))), (3, 1, (v (I 4)))]⟩, ⟨some 7, none, .build [(I 0), (I 0), (I 0), (I 0), (I 0), (S []), (.slice none 0 0)] [(0, 1, (v (I 1)))]⟩, ⟨some 8, none, .build [(I 0), (I 0), (I 0), (I 0), (I 0), (S []), (.slice none 0 0)] [(0, 1, (v (I 19))), (3, 1, (v (I 1)))]⟩, ⟨some 9, none, .build [(I 0), (I 0), (I 0), (I 0), (I 0), (S []), (.slice none 0 0)] [(0, 1, (v (I 22)))]⟩, ⟨some 10, none, .buildSlice 62 5 [(I 0), (I 0), (I 0), (I 0), (I 0), (S []), (.slice none 0 0), (I 0), (I 0), (I 0), (I 0), (I 0), (S []), (.slice none 0 0), (I 0), (I 0), (I 0), (I 0), (I 0), (S []), (.slice none 0 0), (I 0), (I 0), (I 0), (I 0), (I 0), (S []), (.slice none 0 0), (I 0), (I 0), (I 0), (I 0), (I 0), (S []), (.slice none 0 0)] [(0, 7, (t 5)), (7, 7, (t 6)), (14, 7, (t 7)), (21, 7, (t 8)), (28, 7, (t 9))]⟩, ⟨some 11, none, .build [(S []), (I 0), (I 0), (.slice none 0 0)] [(0, 1, (v (S [95, 115, 116, 97, 114, 116]))), (1, 1, (v (I 1))), (3, 1, (t 10))]⟩, ⟨some 12, none, .buildSlice 65 1 [(S []), (I 0), (I 0), (.slice none 0 0)] [(0, 4, (t 11))]⟩, ⟨some 13, none, .build [(I 0), (.slice none 0 0)] [(1, 1, (t 12))]⟩, ⟨some 1, none, .box 53 (v (.agg #[(I 0), (.slice none 0 0)]))⟩, ⟨none, none, .store 2 (t 1) (t 13)⟩]) (.seq (.ops [⟨some 15, none, .load (some 2) (t 1)⟩, ⟨some 16, none, .call (v (Fn 30)) [(t 15), (v (I 0))]⟩, ⟨some 14, none, .mov (t 16)⟩, ⟨some 17, none, .extract (t 14) 0⟩, ⟨some 18, none, .extract (t 14) 1⟩, ⟨some 2, none, .mov (t 17)⟩, ⟨some 3, none, .mov (t 18)⟩]) (.seq (.ops [⟨some 19, none, .mov (t 2)⟩, ⟨some 20, none, .call (v (Fn 9)) [(t 19)]⟩, ⟨some 4, none, .mov (t 20)⟩]) (.seq (.ops [⟨some 21, none, .mov (t 3)⟩, ⟨some 22, none, .arith .eql (t 21) (v (I 0))⟩, ⟨some 23, none, .mov (t 22)⟩, ⟨some 24, some (23, true), .mov (t 2)⟩, ⟨some 25, some (23, true), .lenSl (t 24)⟩, ⟨some 26, some (23, true), .arith .eql (t 25) (v (I 4))⟩, ⟨some 27, none, .pick (t 23) (t 26) (v (.bool false))⟩, ⟨some 28, none, .mov (t 27)⟩, ⟨some 29, some (28, true), .mov (t 4)⟩, ⟨some 30, some (28, true), .lenSl (t 29)⟩, ⟨some 31, some (28, true), .arith .eql (t 30) (v (I 1))⟩, ⟨some 32, none, .pick (t 28) (t 31) (v (.bool false))⟩, ⟨some 33, none, .mov (t 32)⟩, ⟨some 34, some (33, true), .mov (t 4)⟩, ⟨some 35, some (33, true), .indexAddr 2 (t 34) (v (I 0))⟩, ⟨some 36, some (33, true), .fieldAddr 0 (t 35)⟩, ⟨some 37, some (33, true), .load none (t 36)⟩, ⟨some 38, some (33, true), .arith .eql (t 37) (v (I 1))⟩, ⟨some 39, none, .pick (t 33) (t 38) (v (.bool false))⟩, ⟨some 40, none, .mov (t 39)⟩, ⟨some 41, some (40, true), .mov (t 4)⟩, ⟨some 42, some (40, true), .indexAddr 2 (t 41) (v (I 0))⟩, ⟨some 43, some (40, true), .fieldAddr 1 (t 42)⟩, ⟨some 44, some (40, true), .load none (t 43)⟩, ⟨some 45, some (40, true), .buildSlice 3 2 [(I 0), (I 0)] [(0, 1, (v (I 1))), (1, 1, (v (I 2)))]⟩, ⟨some 46, some (40, true), .call (v (Fn 13)) [(t 44), (t 45)]⟩, ⟨some 47, none, .pick (t 40) (t 46) (v (.bool false))⟩, ⟨some 48, none, .mov (t 47)⟩, ⟨some 49, some (48, true), .mov (t 2)⟩, ⟨some 50, some (48, true), .call (v (Fn 17)) [(t 49)]⟩, ⟨some 51, some (48, true), .buildSlice 3 4 [(I 0), (I 0), (I 0), (I 0)] [(0, 1, (v (I (-1)))), (1, 1, (v (I 0))), (2, 1, (v (I 1))), (3, 1, (v (I 1)))]⟩, ⟨some 52, some (48, true), .call (v (Fn 13)) [(t 50), (t 51)]⟩, ⟨some 53, none, .pick (t 48) (t 52) (v (.bool false))⟩, ⟨some 0, none, .mov (t 53)⟩]) .ret)))))⟩
def ir9 : IFunc := ⟨137, [.tmp 2], (.seq (.ops [⟨some 2, none, .mov (v (.slice none 0 0))⟩]) (.seq (.ops [⟨some 17, none, .mov (t 0)⟩, ⟨some 18, none, .call (v (Fn 15)) [(t 17)]⟩, ⟨some 19, none, .mov (t 0)⟩, ⟨some 20, none, .call (v (Fn 31)) [(t 19)]⟩, ⟨some 3, none, .mov (t 18)⟩, ⟨some 4, none, .mov (t 20)⟩]) (.seq (.ops [⟨some 21, none, .mov (t 0)⟩, ⟨some 22, none, .lenSl (t 21)⟩, ⟨some 23, none, .makeSlice 24 24 [(.slice none 0 0)] (t 22) (t 22)⟩, ⟨some 5, none, .box 55 (v (.slice none 0 0))⟩, ⟨none, none, .store 1 (t 5) (t 23)⟩]) (.seq (.seq (.ops [⟨some 24, none, .mov (t 0)⟩, ⟨some 25, none, .lenSl (t 24)⟩, ⟨some 26, none, .mov (v (I 0))⟩]) (.block 0 (.loop (.seq (.ops [⟨some 27, none, .arith .lss (t 26) (t 25)⟩]) (.seq (.cond (t 27) .skip (.exit 0)) (.seq (.block 1 (.seq (.ops [⟨some 28, none, .mov (t 26)⟩, ⟨some 6, none, .box 3 (v (I 0))⟩, ⟨none, none, .store 1 (t 6) (t 28)⟩]) (.seq (.ops [⟨some 29, none, .mov (t 0)⟩, ⟨some 30, none, .load none (t 6)⟩, ⟨some 31, none, .call (v (Fn 32)) [(t 29), (t 30)]⟩]) (.block 2 (.rangeFunc (t 31) [32] (.ops [⟨some 7, none, .mov (t 32)⟩]) (.block 3 (.draw [⟨some 33, none, .load none (t 5)⟩, ⟨some 34, none, .mov (t 7)⟩, ⟨some 35, none, .load none (t 5)⟩, ⟨some 36, none, .mov (t 7)⟩, ⟨some 37, none, .indexAddr 1 (t 35) (t 36)⟩, ⟨some 38, none, .load none (t 37)⟩, ⟨some 39, none, .load none (t 6)⟩, ⟨some 40, none, .buildSlice 3 1 [(I 0)] [(0, 1, (t 39))]⟩, ⟨some 41, none, .append 3 1 8 (t 38) (t 40)⟩] [⟨some 42, none, .indexAddr 1 (t 33) (t 34)⟩, ⟨none, none, .store 1 (t 42) (t 41)⟩]))))))) (.ops [⟨some 43, none, .arith .add (t 26) (v (I 1))⟩, ⟨some 26, none, .mov (t 43)⟩]))))))) (.seq (.ops [⟨some 8, none, .mov (v (.slice none 0 0))⟩]) (.seq (.seq (.ops [⟨some 44, none, .mov (t 0)⟩, ⟨some 45, none, .lenSl (t 44)⟩, ⟨some 46, none, .mov (v (I 0))⟩]) (.block 4 (.loop (.seq (.ops [⟨some 47, none, .arith .lss (t 46) (t 45)⟩]) (.seq (.cond (t 47) .skip (.exit 4)) (.seq (.block 5 (.seq (.ops [⟨some 48, none, .mov (t 46)⟩, ⟨some 9, none, .mov (t 48)⟩]) (.seq (.ops [⟨some 49, none, .makeMap⟩, ⟨some 10, none, .mov (t 49)⟩]) (.seq (.ops [⟨some 11, none, .mov (v (.slice none 0 0))⟩]) (.seq (.seq (.ops [⟨some 50, none, .load none (t 5)⟩, ⟨some 51, none, .mov (t 9)⟩, ⟨some 52, none, .indexAddr 1 (t 50) (t 51)⟩, ⟨some 53, none, .load none (t 52)⟩, ⟨some 54, none, .lenSl (t 53)⟩, ⟨some 55, none, .mov (v (I 0))⟩]) (.block 6 (.loop (.seq (.ops [⟨some 56, none, .arith .lss (t 55) (t 54)⟩]) (.seq (.cond (t 56) .skip (.exit 6)) (.seq (.block 7 (.seq (.ops [⟨some 57, none, .indexAddr 1 (t 53) (t 55)⟩, ⟨some 58, none, .load none (t 57)⟩, ⟨some 13, none, .mov (t 58)⟩]) (.seq (.ops [⟨some 59, none, .mov (t 3)⟩, ⟨some 60, none, .mov (t 13)⟩, ⟨some 61, none, .indexAddr 1 (t 59) (t 60)⟩, ⟨some 62, none, .load none (t 61)⟩, ⟨some 63, none, .mov (t 62)⟩, ⟨some 64, some (63, true), .mov (t 4)⟩, ⟨some 65, some (63, true), .mov (t 9)⟩, ⟨some 66, some (63, true), .indexAddr 1 (t 64) (t 65)⟩, ⟨some 67, some (63, true), .load none (t 66)⟩, ⟨some 68, some (63, true), .mov (t 13)⟩, ⟨some 69, some (63, true), .indexAddr 1 (t 67) (t 68)⟩, ⟨some 70, some (63, true), .load none (t 69)⟩, ⟨some 71, none, .pick (t 63) (t 70) (v (.bool false))⟩]) (.cond (t 71) (.ops [⟨some 72, none, .mov (t 11)⟩, ⟨some 73, none, .mov (t 13)⟩, ⟨some 74, none, .buildSlice 3 1 [(I 0)] [(0, 1, (t 73))]⟩, ⟨some 75, none, .append 3 1 8 (t 72) (t 74)⟩, ⟨some 11, none, .mov (t 75)⟩]) .skip)))) (.ops [⟨some 76, none, .arith .add (t 55) (v (I 1))⟩, ⟨some 55, none, .mov (t 76)⟩]))))))) (.seq (.seq (.ops [⟨some 77, none, .mov (t 11)⟩, ⟨some 78, none, .lenSl (t 77)⟩, ⟨some 79, none, .arith .eql (t 78) (v (I 0))⟩]) (.cond (t 79) (.exit 5) .skip)) (.seq (.ops [⟨some 80, none, .mov (t 10)⟩, ⟨some 81, none, .mov (t 9)⟩, ⟨none, none, .mapUpdate .int (t 80) (t 81) (v (.bool true))⟩]) (.seq (.block 8 (.loop (.seq (.seq (.ops [⟨some 82, none, .mov (t 11)⟩, ⟨some 83, none, .lenSl (t 82)⟩, ⟨some 84, none, .arith .gtr (t 83) (v (I 0))⟩]) (.cond (t 84) .skip (.exit 8))) (.block 9 (.seq (.ops [⟨some 85, none, .mov (t 11)⟩, ⟨some 86, none, .mov (t 11)⟩, ⟨some 87, none, .lenSl (t 86)⟩, ⟨some 88, none, .arith .sub (t 87) (v (I 1))⟩, ⟨some 89, none, .indexAddr 1 (t 85) (t 88)⟩, ⟨some 90, none, .load none (t 89)⟩, ⟨some 14, none, .mov (t 90)⟩]) (.seq (.ops [⟨some 91, none, .mov (t 11)⟩, ⟨some 92, none, .mov (t 11)⟩, ⟨some 93, none, .lenSl (t 92)⟩, ⟨some 94, none, .arith .sub (t 93) (v (I 1))⟩, ⟨some 95, none, .slice 3 1 (t 91) none (some (t 94)) none⟩, ⟨some 11, none, .mov (t 95)⟩]) (.seq (.ops [⟨some 96, none, .mov (t 10)⟩, ⟨some 97, none, .mov (t 14)⟩, ⟨some 98, none, .lookup .int (.bool false) false (t 96) (t 97)⟩, ⟨some 99, none, .un .not (t 98)⟩, ⟨some 100, none, .mov (t 99)⟩, ⟨some 101, some (100, true), .mov (t 3)⟩, ⟨some 102, some (100, true), .mov (t 14)⟩, ⟨some 103, some (100, true), .indexAddr 1 (t 101) (t 102)⟩, ⟨some 104, some (100, true), .load none (t 103)⟩, ⟨some 105, none, .pick (t 100) (t 104) (v (.bool false))⟩]) (.cond (t 105) (.seq (.ops [⟨some 106, none, .mov (t 10)⟩, ⟨some 107, none, .mov (t 14)⟩, ⟨none, none, .mapUpdate .int (t 106) (t 107) (v (.bool true))⟩]) (.ops [⟨some 108, none, .mov (t 11)⟩, ⟨some 109, none, .load none (t 5)⟩, ⟨some 110, none, .mov (t 14)⟩, ⟨some 111, none, .indexAddr 1 (t 109) (t 110)⟩, ⟨some 112, none, .load none (t 111)⟩, ⟨some 113, none, .append 3 1 8 (t 108) (t 112)⟩, ⟨some 11, none, .mov (t 113)⟩])) .skip)))))))) (.seq (.ops [⟨some 114, none, .mov (t 9)⟩, ⟨some 115, none, .build [(I 0), (.slice none 0 0)] [(0, 1, (t 114))]⟩, ⟨some 15, none, .box 37 (v (.agg #[(I 0), (.slice none 0 0)]))⟩, ⟨none, none, .store 2 (t 15) (t 115)⟩]) (.seq (.seq (.ops [⟨some 116, none, .mov (t 0)⟩, ⟨some 117, none, .lenSl (t 116)⟩, ⟨some 118, none, .mov (v (I 0))⟩]) (.block 10 (.loop (.seq (.ops [⟨some 119, none, .arith .lss (t 118) (t 117)⟩]) (.seq (.cond (t 119) .skip (.exit 10)) (.seq (.block 11 (.seq (.ops [⟨some 120, none, .mov (t 118)⟩, ⟨some 16, none, .mov (t 120)⟩]) (.seq (.ops [⟨some 121, none, .mov (t 10)⟩, ⟨some 122, none, .mov (t 16)⟩, ⟨some 123, none, .lookup .int (.bool false) false (t 121) (t 122)⟩]) (.cond (t 123) (.ops [⟨some 124, none, .fieldAddr 1 (t 15)⟩, ⟨some 125, none, .load none (t 124)⟩, ⟨some 126, none, .mov (t 16)⟩, ⟨some 127, none, .buildSlice 3 1 [(I 0)] [(0, 1, (t 126))]⟩, ⟨some 128, none, .append 3 1 8 (t 125) (t 127)⟩, ⟨some 129, none, .fieldAddr 1 (t 15)⟩, ⟨none, none, .store 1 (t 129) (t 128)⟩]) .skip)))) (.ops [⟨some 130, none, .arith .add (t 118) (v (I 1))⟩, ⟨some 118, none, .mov (t 130)⟩]))))))) (.ops [⟨some 131, none, .mov (t 8)⟩, ⟨some 132, none, .load (some 2) (t 15)⟩, ⟨some 133, none, .buildSlice 37 1 [(I 0), (.slice none 0 0)] [(0, 2, (t 132))]⟩, ⟨some 134, none, .append 37 2 32 (t 131) (t 133)⟩, ⟨some 8, none, .mov (t 134)⟩]))))))))))) (.ops [⟨some 135, none, .arith .add (t 46) (v (I 1))⟩, ⟨some 46, none, .mov (t 135)⟩]))))))) (.seq (.ops [⟨some 136, none, .mov (t 8)⟩, ⟨some 2, none, .mov (t 136)⟩]) .ret)))))))⟩
def ir13 : IFunc := ⟨26, [.tmp 4], (.seq (.ops [⟨some 4, none, .mov (v (.bool false))⟩]) (.seq (.seq (.ops [⟨some 6, none, .mov (t 0)⟩, ⟨some 7, none, .lenSl (t 6)⟩, ⟨some 8, none, .mov (t 1)⟩, ⟨some 9, none, .lenSl (t 8)⟩, ⟨some 10, none, .arith .neq (t 7) (t 9)⟩]) (.cond (t 10) (.seq (.ops [⟨some 4, none, .mov (v (.bool false))⟩]) .ret) .skip)) (.seq (.seq (.ops [⟨some 11, none, .mov (t 0)⟩, ⟨some 12, none, .lenSl (t 11)⟩, ⟨some 13, none, .mov (v (I 0))⟩]) (.block 0 (.loop (.seq (.ops [⟨some 14, none, .arith .lss (t 13) (t 12)⟩]) (.seq (.cond (t 14) .skip (.exit 0)) (.seq (.block 1 (.seq (.ops [⟨some 15, none, .mov (t 13)⟩, ⟨some 5, none, .mov (t 15)⟩]) (.seq (.draw [⟨some 16, none, .mov (t 0)⟩, ⟨some 17, none, .mov (t 5)⟩, ⟨some 18, none, .indexAddr 1 (t 16) (t 17)⟩, ⟨some 19, none, .load none (t 18)⟩, ⟨some 20, none, .mov (t 1)⟩, ⟨some 21, none, .mov (t 5)⟩, ⟨some 22, none, .indexAddr 1 (t 20) (t 21)⟩, ⟨some 23, none, .load none (t 22)⟩] [⟨some 24, none, .arith .neq (t 19) (t 23)⟩]) (.cond (t 24) (.seq (.ops [⟨some 4, none, .mov (v (.bool false))⟩]) .ret) .skip)))) (.ops [⟨some 25, none, .arith .add (t 13) (v (I 1))⟩, ⟨some 13, none, .mov (t 25)⟩]))))))) (.seq (.ops [⟨some 4, none, .mov (v (.bool true))⟩]) .ret))))⟩
def ir15 : IFunc := ⟨5, [.tmp 2], (.seq (.ops [⟨some 2, none, .mov (v (.slice none 0 0))⟩]) (.seq (.ops [⟨some 3, none, .mov (t 0)⟩, ⟨some 4, none, .call (v (Fn 36)) [(t 3), (v (I (-1)))]⟩, ⟨some 2, none, .mov (t 4)⟩]) .ret))⟩
def ir17 : IFunc := ⟨53, [.tmp 2], (.seq (.ops [⟨some 2, none, .mov (v (.slice none 0 0))⟩]) (.seq (.ops [⟨some 8, none, .mov (t 0)⟩, ⟨some 9, none, .call (v (Fn 31)) [(t 8)]⟩, ⟨some 3, none, .mov (t 9)⟩]) (.seq (.ops [⟨some 4, none, .mov (v (.slice none 0 0))⟩]) (.seq (.seq (.ops [⟨some 10, none, .mov (t 0)⟩, ⟨some 11, none, .lenSl (t 10)⟩, ⟨some 12, none, .mov (v (I 0))⟩]) (.block 0 (.loop (.seq (.ops [⟨some 13, none, .arith .lss (t 12) (t 11)⟩]) (.seq (.cond (t 13) .skip (.exit 0)) (.seq (.block 1 (.seq (.ops [⟨some 14, none, .mov (t 12)⟩, ⟨some 5, none, .mov (t 14)⟩]) (.seq (.ops [⟨some 6, none, .mov (v (I (-1)))⟩]) (.seq (.seq (.ops [⟨some 15, none, .mov (t 0)⟩, ⟨some 16, none, .lenSl (t 15)⟩, ⟨some 17, none, .mov (v (I 0))⟩]) (.block 2 (.loop (.seq (.ops [⟨some 18, none, .arith .lss (t 17) (t 16)⟩]) (.seq (.cond (t 18) .skip (.exit 2)) (.seq (.block 3 (.seq (.ops [⟨some 19, none, .mov (t 17)⟩, ⟨some 7, none, .mov (t 19)⟩]) (.seq (.ops [⟨some 20, none, .mov (t 7)⟩, ⟨some 21, none, .mov (t 5)⟩, ⟨some 22, none, .arith .neq (t 20) (t 21)⟩, ⟨some 23, none, .mov (t 22)⟩, ⟨some 24, some (23, true), .mov (t 3)⟩, ⟨some 25, some (23, true), .mov (t 7)⟩, ⟨some 26, some (23, true), .indexAddr 1 (t 24) (t 25)⟩, ⟨some 27, some (23, true), .load none (t 26)⟩, ⟨some 28, some (23, true), .mov (t 5)⟩, ⟨some 29, some (23, true), .indexAddr 1 (t 27) (t 28)⟩, ⟨some 30, some (23, true), .load none (t 29)⟩, ⟨some 31, none, .pick (t 23) (t 30) (v (.bool false))⟩, ⟨some 32, none, .mov (t 31)⟩, ⟨some 33, some (32, true), .mov (t 6)⟩, ⟨some 34, some (32, true), .arith .lss (t 33) (v (I 0))⟩, ⟨some 35, some (32, true), .mov (t 34)⟩, ⟨some 36, some (35, false), .mov (t 3)⟩, ⟨some 37, some (35, false), .mov (t 6)⟩, ⟨some 38, some (35, false), .indexAddr 1 (t 36) (t 37)⟩, ⟨some 39, some (35, false), .load none (t 38)⟩, ⟨some 40, some (35, false), .mov (t 7)⟩, ⟨some 41, some (35, false), .indexAddr 1 (t 39) (t 40)⟩, ⟨some 42, some (35, false), .load none (t 41)⟩, ⟨some 43, some (32, true), .pick (t 35) (v (.bool true)) (t 42)⟩, ⟨some 44, none, .pick (t 32) (t 43) (v (.bool false))⟩]) (.cond (t 44) (.ops [⟨some 45, none, .mov (t 7)⟩, ⟨some 6, none, .mov (t 45)⟩]) .skip)))) (.ops [⟨some 46, none, .arith .add (t 17) (v (I 1))⟩, ⟨some 17, none, .mov (t 46)⟩]))))))) (.ops [⟨some 47, none, .mov (t 4)⟩, ⟨some 48, none, .mov (t 6)⟩, ⟨some 49, none, .buildSlice 3 1 [(I 0)] [(0, 1, (t 48))]⟩, ⟨some 50, none, .append 3 1 8 (t 47) (t 49)⟩, ⟨some 4, none, .mov (t 50)⟩]))))) (.ops [⟨some 51, none, .arith .add (t 12) (v (I 1))⟩, ⟨some 12, none, .mov (t 51)⟩]))))))) (.seq (.ops [⟨some 52, none, .mov (t 4)⟩, ⟨some 2, none, .mov (t 52)⟩]) .ret)))))⟩
def ir23 : IFunc := ⟨65, [.tmp 4], (.seq (.ops [⟨some 2, none, .box 53 (t 0)⟩, ⟨some 4, none, .mov (v (.bool false))⟩]) (.seq (.seq (.ops [⟨some 10, none, .fieldAddr 1 (t 2)⟩, ⟨some 11, none, .load none (t 10)⟩, ⟨some 12, none, .lenSl (t 11)⟩, ⟨some 13, none, .arith .gtr (t 12) (v (I 20))⟩, ⟨some 14, none, .mov (t 13)⟩, ⟨some 15, some (14, false), .fieldAddr 0 (t 2)⟩, ⟨some 16, some (14, false), .load none (t 15)⟩, ⟨some 17, some (14, false), .arith .gtr (t 16) (v (I 50))⟩, ⟨some 18, none, .pick (t 14) (v (.bool true)) (t 17)⟩]) (.cond (t 18) (.seq (.ops [⟨some 4, none, .mov (v (.bool false))⟩]) .ret) .skip)) (.seq (.ops [⟨some 5, none, .mov (v (I 0))⟩]) (.seq (.seq (.ops [⟨some 19, none, .fieldAddr 1 (t 2)⟩, ⟨some 20, none, .load none (t 19)⟩, ⟨some 21, none, .lenSl (t 20)⟩, ⟨some 22, none, .mov (v (I 0))⟩]) (.block 0 (.loop (.seq (.ops [⟨some 23, none, .arith .lss (t 22) (t 21)⟩]) (.seq (.cond (t 23) .skip (.exit 0)) (.seq (.block 1 (.seq (.ops [⟨some 24, none, .indexAddr 4 (t 20) (t 22)⟩, ⟨some 25, none, .load (some 4) (t 24)⟩, ⟨some 7, none, .box 65 (v (.agg #[(S []), (I 0), (I 0), (.slice none 0 0)]))⟩, ⟨none, none, .store 4 (t 7) (t 25)⟩]) (.seq (.ops [⟨some 26, none, .mov (t 5)⟩, ⟨some 27, none, .fieldAddr 3 (t 7)⟩, ⟨some 28, none, .load none (t 27)⟩, ⟨some 29, none, .lenSl (t 28)⟩, ⟨some 30, none, .arith .add (v (I 1)) (t 29)⟩, ⟨some 31, none, .arith .add (t 26) (t 30)⟩, ⟨some 5, none, .mov (t 31)⟩]) (.seq (.seq (.ops [⟨some 32, none, .mov (t 5)⟩, ⟨some 33, none, .mov (t 1)⟩, ⟨some 34, none, .arith .gtr (t 32) (t 33)⟩, ⟨some 35, none, .mov (t 34)⟩, ⟨some 36, some (35, false), .fieldAddr 1 (t 7)⟩, ⟨some 37, some (35, false), .load none (t 36)⟩, ⟨some 38, some (35, false), .arith .gtr (t 37) (v (I 60))⟩, ⟨some 39, none, .pick (t 35) (v (.bool true)) (t 38)⟩, ⟨some 40, none, .mov (t 39)⟩, ⟨some 41, some (40, false), .fieldAddr 0 (t 7)⟩, ⟨some 42, some (40, false), .load none (t 41)⟩, ⟨some 43, some (40, false), .lenStr (t 42)⟩, ⟨some 44, some (40, false), .arith .gtr (t 43) (v (I 60))⟩, ⟨some 45, none, .pick (t 40) (v (.bool true)) (t 44)⟩]) (.cond (t 45) (.seq (.ops [⟨some 4, none, .mov (v (.bool false))⟩]) .ret) .skip)) (.seq (.ops [⟨some 46, none, .fieldAddr 3 (t 7)⟩, ⟨some 47, none, .load none (t 46)⟩, ⟨some 48, none, .lenSl (t 47)⟩, ⟨some 49, none, .mov (v (I 0))⟩]) (.block 2 (.loop (.seq (.ops [⟨some 50, none, .arith .lss (t 49) (t 48)⟩]) (.seq (.cond (t 50) .skip (.exit 2)) (.seq (.block 3 (.seq (.ops [⟨some 51, none, .indexAddr 7 (t 47) (t 49)⟩, ⟨some 52, none, .load (some 7) (t 51)⟩, ⟨some 9, none, .box 62 (v (.agg #[(I 0), (I 0), (I 0), (I 0), (I 0), (S []), (.slice none 0 0)]))⟩, ⟨none, none, .store 7 (t 9) (t 52)⟩]) (.seq (.ops [⟨some 53, none, .fieldAddr 6 (t 9)⟩, ⟨some 54, none, .load none (t 53)⟩, ⟨some 55, none, .lenSl (t 54)⟩, ⟨some 56, none, .arith .gtr (t 55) (v (I 20))⟩, ⟨some 57, none, .mov (t 56)⟩, ⟨some 58, some (57, false), .fieldAddr 5 (t 9)⟩, ⟨some 59, some (57, false), .load none (t 58)⟩, ⟨some 60, some (57, false), .lenStr (t 59)⟩, ⟨some 61, some (57, false), .arith .gtr (t 60) (v (I 60))⟩, ⟨some 62, none, .pick (t 57) (v (.bool true)) (t 61)⟩]) (.cond (t 62) (.seq (.ops [⟨some 4, none, .mov (v (.bool false))⟩]) .ret) .skip)))) (.ops [⟨some 63, none, .arith .add (t 49) (v (I 1))⟩, ⟨some 49, none, .mov (t 63)⟩]))))))))))) (.ops [⟨some 64, none, .arith .add (t 22) (v (I 1))⟩, ⟨some 22, none, .mov (t 64)⟩]))))))) (.seq (.ops [⟨some 4, none, .mov (v (.bool true))⟩]) .ret)))))⟩
def ir24 : IFunc := ⟨61, [.tmp 4, .tmp 5], (.seq (.ops [⟨some 2, none, .box 53 (t 0)⟩, ⟨some 4, none, .mov (v (.slice none 0 0))⟩, ⟨some 5, none, .mov (v (I 0))⟩]) (.seq (.ops [⟨some 15, none, .load (some 2) (t 2)⟩, ⟨some 16, none, .mov (t 1)⟩, ⟨some 17, none, .call (v (Fn 41)) [(t 15), (t 16)]⟩, ⟨some 14, none, .mov (t 17)⟩, ⟨some 18, none, .extract (t 14) 0⟩, ⟨some 19, none, .extract (t 14) 1⟩, ⟨some 6, none, .box 65 (v (.agg #[(S []), (I 0), (I 0), (.slice none 0 0)]))⟩, ⟨none, none, .store 4 (t 6) (t 18)⟩, ⟨some 7, none, .mov (t 19)⟩]) (.seq (.seq (.ops [⟨some 20, none, .mov (t 7)⟩, ⟨some 21, none, .arith .neq (t 20) (v (I 0))⟩]) (.cond (t 21) (.seq (.ops [⟨some 22, none, .mov (t 7)⟩, ⟨some 4, none, .mov (v (.slice none 0 0))⟩, ⟨some 5, none, .mov (t 22)⟩]) .ret) .skip)) (.seq (.ops [⟨some 23, none, .fieldAddr 3 (t 6)⟩, ⟨some 24, none, .load none (t 23)⟩, ⟨some 25, none, .call (v (Fn 42)) [(t 24)]⟩, ⟨some 8, none, .box 55 (v (.slice none 0 0))⟩, ⟨none, none, .store 1 (t 8) (t 25)⟩]) (.seq (.ops [⟨some 26, none, .fieldAddr 3 (t 6)⟩, ⟨some 27, none, .load none (t 26)⟩, ⟨some 28, none, .lenSl (t 27)⟩, ⟨some 29, none, .makeSlice 85 24 [(.slice none 0 0)] (t 28) (t 28)⟩, ⟨some 9, none, .box 83 (v (.slice none 0 0))⟩, ⟨none, none, .store 1 (t 9) (t 29)⟩]) (.seq (.seq (.ops [⟨some 30, none, .load none (t 9)⟩, ⟨some 31, none, .lenSl (t 30)⟩, ⟨some 32, none, .mov (v (I 0))⟩]) (.block 0 (.loop (.seq (.ops [⟨some 33, none, .arith .lss (t 32) (t 31)⟩]) (.seq (.cond (t 33) .skip (.exit 0)) (.seq (.block 1 (.seq (.ops [⟨some 34, none, .mov (t 32)⟩, ⟨some 10, none, .mov (t 34)⟩]) (.draw [⟨some 35, none, .load none (t 9)⟩, ⟨some 36, none, .mov (t 10)⟩, ⟨some 37, none, .fieldAddr 1 (t 6)⟩, ⟨some 38, none, .load none (t 37)⟩, ⟨some 39, none, .call (v (Fn 43)) [(t 38)]⟩] [⟨some 40, none, .indexAddr 1 (t 35) (t 36)⟩, ⟨none, none, .store 1 (t 40) (t 39)⟩]))) (.ops [⟨some 41, none, .arith .add (t 32) (v (I 1))⟩, ⟨some 32, none, .mov (t 41)⟩]))))))) (.seq (.ops [⟨some 42, none, .fieldAddr 3 (t 6)⟩, ⟨some 43, none, .load none (t 42)⟩, ⟨some 44, none, .load none (t 9)⟩, ⟨some 45, none, .func 45 [] [(t 8)]⟩, ⟨some 46, none, .func 46 [] [(t 9), (t 6)]⟩, ⟨some 47, none, .call (v (Fn 44)) [(t 43), (t 44), (t 45), (t 46)]⟩]) (.seq (.ops [⟨some 11, none, .mov (v (.slice none 0 0))⟩]) (.seq (.seq (.ops [⟨some 48, none, .load none (t 9)⟩, ⟨some 49, none, .lenSl (t 48)⟩, ⟨some 50, none, .mov (v (I 0))⟩]) (.block 2 (.loop (.seq (.ops [⟨some 51, none, .arith .lss (t 50) (t 49)⟩]) (.seq (.cond (t 51) .skip (.exit 2)) (.seq (.block 3 (.seq (.ops [⟨some 52, none, .indexAddr 1 (t 48) (t 50)⟩, ⟨some 53, none, .load none (t 52)⟩, ⟨some 13, none, .mov (t 53)⟩]) (.ops [⟨some 54, none, .mov (t 11)⟩, ⟨some 55, none, .mov (t 13)⟩, ⟨some 56, none, .call (v (Fn 51)) [(t 55), (v (I 0))]⟩, ⟨some 57, none, .buildSlice 24 1 [(.slice none 0 0)] [(0, 1, (t 56))]⟩, ⟨some 58, none, .append 24 1 24 (t 54) (t 57)⟩, ⟨some 11, none, .mov (t 58)⟩]))) (.ops [⟨some 59, none, .arith .add (t 50) (v (I 1))⟩, ⟨some 50, none, .mov (t 59)⟩]))))))) (.seq (.ops [⟨some 60, none, .mov (t 11)⟩, ⟨some 4, none, .mov (t 60)⟩, ⟨some 5, none, .mov (v (I 0))⟩]) .ret))))))))))⟩
def ir25 : IFunc := ⟨95, [.tmp 4, .tmp 5], (.seq (.ops [⟨some 2, none, .box 53 (t 0)⟩, ⟨some 4, none, .mov (v (.slice none 0 0))⟩, ⟨some 5, none, .mov (v (I 0))⟩]) (.seq (.seq (.ops [⟨some 16, none, .load (some 2) (t 2)⟩, ⟨some 17, none, .mov (t 1)⟩, ⟨some 18, none, .call (v (Fn 52)) [(t 16), (t 17)]⟩, ⟨some 6, none, .mov (t 18)⟩]) (.seq (.ops [⟨some 19, none, .mov (t 6)⟩, ⟨some 20, none, .arith .neq (t 19) (v (I 0))⟩]) (.cond (t 20) (.seq (.ops [⟨some 21, none, .mov (t 6)⟩, ⟨some 4, none, .mov (v (.slice none 0 0))⟩, ⟨some 5, none, .mov (t 21)⟩]) .ret) .skip))) (.seq (.ops [⟨some 22, none, .fieldAddr 1 (t 2)⟩, ⟨some 23, none, .load none (t 22)⟩, ⟨some 24, none, .mov (t 1)⟩, ⟨some 25, none, .indexAddr 4 (t 23) (t 24)⟩, ⟨some 26, none, .fieldAddr 3 (t 25)⟩, ⟨some 27, none, .load none (t 26)⟩, ⟨some 7, none, .mov (t 27)⟩]) (.seq (.ops [⟨some 28, none, .mov (t 7)⟩, ⟨some 29, none, .lenSl (t 28)⟩, ⟨some 30, none, .makeSlice 24 24 [(.slice none 0 0)] (t 29) (t 29)⟩, ⟨some 8, none, .mov (t 30)⟩]) (.seq (.seq (.ops [⟨some 9, none, .mov (v (.bool true))⟩]) (.block 0 (.loop (.seq (.seq (.ops [⟨some 31, none, .mov (t 9)⟩]) (.cond (t 31) .skip (.exit 0))) (.block 1 (.seq (.ops [⟨some 9, none, .mov (v (.bool false))⟩]) (.seq (.ops [⟨some 32, none, .mov (t 7)⟩, ⟨some 33, none, .lenSl (t 32)⟩, ⟨some 34, none, .arith .sub (t 33) (v (I 1))⟩, ⟨some 10, none, .mov (t 34)⟩]) (.block 2 (.loop (.seq (.seq (.ops [⟨some 35, none, .mov (t 10)⟩, ⟨some 36, none, .arith .geq (t 35) (v (I 0))⟩]) (.cond (t 36) .skip (.exit 2))) (.seq (.block 3 (.seq (.ops [⟨some 39, none, .mov (t 7)⟩, ⟨some 40, none, .mov (t 10)⟩, ⟨some 41, none, .call (v (Fn 53)) [(t 39), (t 40)]⟩, ⟨some 11, none, .mov (t 41)⟩]) (.seq (.ops [⟨some 42, none, .mov (t 8)⟩, ⟨some 43, none, .mov (t 10)⟩, ⟨some 44, none, .indexAddr 1 (t 42) (t 43)⟩, ⟨some 45, none, .load none (t 44)⟩, ⟨some 12, none, .mov (t 45)⟩]) (.seq (.seq (.ops [⟨some 13, none, .mov (v (I 0))⟩]) (.block 4 (.loop (.seq (.seq (.ops [⟨some 46, none, .mov (t 13)⟩, ⟨some 47, none, .mov (t 11)⟩, ⟨some 48, none, .lenSl (t 47)⟩, ⟨some 49, none, .arith .lss (t 46) (t 48)⟩]) (.cond (t 49) .skip (.exit 4))) (.seq (.block 5 (.seq (.draw [⟨some 52, none, .mov (t 7)⟩, ⟨some 53, none, .mov (t 11)⟩, ⟨some 54, none, .mov (t 13)⟩, ⟨some 55, none, .indexAddr 1 (t 53) (t 54)⟩, ⟨some 56, none, .load none (t 55)⟩, ⟨some 57, none, .indexAddr 7 (t 52) (t 56)⟩, ⟨some 58, none, .load (some 7) (t 57)⟩, ⟨some 59, none, .mov (t 8)⟩, ⟨some 60, none, .mov (t 11)⟩, ⟨some 61, none, .mov (t 13)⟩, ⟨some 62, none, .indexAddr 1 (t 60) (t 61)⟩, ⟨some 63, none, .load none (t 62)⟩, ⟨some 64, none, .indexAddr 1 (t 59) (t 63)⟩, ⟨some 65, none, .load none (t 64)⟩] [⟨some 66, none, .call (v (Fn 54)) [(t 58), (t 65)]⟩, ⟨some 14, none, .mov (t 66)⟩]) (.seq (.ops [⟨some 15, none, .mov (v (I 0))⟩]) (.block 6 (.loop (.seq (.seq (.ops [⟨some 67, none, .mov (t 15)⟩, ⟨some 68, none, .mov (t 14)⟩, ⟨some 69, none, .lenSl (t 68)⟩, ⟨some 70, none, .arith .lss (t 67) (t 69)⟩]) (.cond (t 70) .skip (.exit 6))) (.seq (.block 7 (.ops [⟨some 73, none, .mov (t 12)⟩, ⟨some 74, none, .mov (t 14)⟩, ⟨some 75, none, .mov (t 15)⟩, ⟨some 76, none, .indexAddr 1 (t 74) (t 75)⟩, ⟨some 77, none, .load none (t 76)⟩, ⟨some 78, none, .call (v (Fn 34)) [(t 73), (t 77)]⟩, ⟨some 12, none, .mov (t 78)⟩])) (.ops [⟨some 71, none, .mov (t 15)⟩, ⟨some 72, none, .arith .add (t 71) (v (I 1))⟩, ⟨some 15, none, .mov (t 72)⟩])))))))) (.ops [⟨some 50, none, .mov (t 13)⟩, ⟨some 51, none, .arith .add (t 50) (v (I 1))⟩, ⟨some 13, none, .mov (t 51)⟩])))))) (.seq (.ops [⟨some 79, none, .mov (t 9)⟩, ⟨some 80, none, .mov (t 79)⟩, ⟨some 81, some (80, false), .mov (t 12)⟩, ⟨some 82, some (80, false), .lenSl (t 81)⟩, ⟨some 83, some (80, false), .mov (t 8)⟩, ⟨some 84, some (80, false), .mov (t 10)⟩, ⟨some 85, some (80, false), .indexAddr 1 (t 83) (t 84)⟩, ⟨some 86, some (80, false), .load none (t 85)⟩, ⟨some 87, some (80, false), .lenSl (t 86)⟩, ⟨some 88, some (80, false), .arith .gtr (t 82) (t 87)⟩, ⟨some 89, none, .pick (t 80) (v (.bool true)) (t 88)⟩, ⟨some 9, none, .mov (t 89)⟩]) (.ops [⟨some 90, none, .mov (t 8)⟩, ⟨some 91, none, .mov (t 10)⟩, ⟨some 92, none, .mov (t 12)⟩, ⟨some 93, none, .indexAddr 1 (t 90) (t 91)⟩, ⟨none, none, .store 1 (t 93) (t 92)⟩])))))) (.ops [⟨some 37, none, .mov (t 10)⟩, ⟨some 38, none, .arith .sub (t 37) (v (I 1))⟩, ⟨some 10, none, .mov (t 38)⟩])))))))))))) (.seq (.ops [⟨some 94, none, .mov (t 8)⟩, ⟨some 4, none, .mov (t 94)⟩, ⟨some 5, none, .mov (v (I 0))⟩]) .ret))))))⟩
def ir26 : IFunc := ⟨166, [.tmp 4, .tmp 5], (.seq (.ops [⟨some 2, none, .box 53 (t 0)⟩, ⟨some 4, none, .mov (v (.slice none 0 0))⟩, ⟨some 5, none, .mov (v (I 0))⟩]) (.seq (.ops [⟨some 27, none, .load (some 2) (t 2)⟩, ⟨some 28, none, .mov (t 1)⟩, ⟨some 29, none, .call (v (Fn 41)) [(t 27), (t 28)]⟩, ⟨some 26, none, .mov (t 29)⟩, ⟨some 30, none, .extract (t 26) 0⟩, ⟨some 31, none, .extract (t 26) 1⟩, ⟨some 6, none, .box 65 (v (.agg #[(S []), (I 0), (I 0), (.slice none 0 0)]))⟩, ⟨none, none, .store 4 (t 6) (t 30)⟩, ⟨some 7, none, .mov (t 31)⟩]) (.seq (.seq (.ops [⟨some 32, none, .mov (t 7)⟩, ⟨some 33, none, .arith .neq (t 32) (v (I 0))⟩]) (.cond (t 33) (.seq (.ops [⟨some 34, none, .mov (t 7)⟩, ⟨some 4, none, .mov (v (.slice none 0 0))⟩, ⟨some 5, none, .mov (t 34)⟩]) .ret) .skip)) (.seq (.ops [⟨some 35, none, .func 55 [] [(t 6)]⟩, ⟨some 8, none, .box 97 (v .nilFunc)⟩, ⟨none, none, .store 1 (t 8) (t 35)⟩]) (.seq (.ops [⟨some 36, none, .makeMap⟩, ⟨some 9, none, .box 98 (v (.map none))⟩, ⟨none, none, .store 1 (t 9) (t 36)⟩]) (.seq (.seq (.ops [⟨some 37, none, .fieldAddr 1 (t 6)⟩, ⟨some 38, none, .load none (t 37)⟩, ⟨some 39, none, .mov (v (I 0))⟩]) (.block 0 (.loop (.seq (.ops [⟨some 40, none, .arith .lss (t 39) (t 38)⟩]) (.seq (.cond (t 40) .skip (.exit 0)) (.seq (.block 1 (.seq (.ops [⟨some 41, none, .mov (t 39)⟩, ⟨some 10, none, .mov (t 41)⟩]) (.draw [⟨some 42, none, .load none (t 9)⟩, ⟨some 43, none, .mov (t 10)⟩, ⟨some 44, none, .load none (t 9)⟩, ⟨some 45, none, .mov (t 10)⟩, ⟨some 46, none, .lookup .int (.slice none 0 0) false (t 44) (t 45)⟩, ⟨some 47, none, .load none (t 8)⟩, ⟨some 48, none, .mov (t 10)⟩, ⟨some 49, none, .arith .sub (v (I (-1))) (t 48)⟩, ⟨some 50, none, .call (t 47) [(t 49)]⟩, ⟨some 51, none, .buildSlice 3 1 [(I 0)] [(0, 1, (t 50))]⟩, ⟨some 52, none, .append 3 1 8 (t 46) (t 51)⟩] [⟨none, none, .mapUpdate .int (t 42) (t 43) (t 52)⟩]))) (.ops [⟨some 53, none, .arith .add (t 39) (v (I 1))⟩, ⟨some 39, none, .mov (t 53)⟩]))))))) (.seq (.seq (.ops [⟨some 54, none, .fieldAddr 3 (t 6)⟩, ⟨some 55, none, .load none (t 54)⟩, ⟨some 56, none, .lenSl (t 55)⟩, ⟨some 57, none, .mov (v (I 0))⟩]) (.block 2 (.loop (.seq (.ops [⟨some 58, none, .arith .lss (t 57) (t 56)⟩]) (.seq (.cond (t 58) .skip (.exit 2)) (.seq (.block 3 (.seq (.ops [⟨some 59, none, .mov (t 57)⟩, ⟨some 60, none, .indexAddr 7 (t 55) (t 57)⟩, ⟨some 61, none, .load (some 7) (t 60)⟩, ⟨some 12, none, .box 62 (v (.agg #[(I 0), (I 0), (I 0), (I 0), (I 0), (S []), (.slice none 0 0)]))⟩, ⟨some 11, none, .mov (t 59)⟩, ⟨none, none, .store 7 (t 12) (t 61)⟩]) (.seq (.ops [⟨some 63, none, .load (some 7) (t 12)⟩, ⟨some 64, none, .call (v (Fn 48)) [(t 63)]⟩, ⟨some 62, none, .mov (t 64)⟩, ⟨some 65, none, .extract (t 62) 0⟩, ⟨some 66, none, .extract (t 62) 1⟩, ⟨some 13, none, .mov (t 65)⟩, ⟨some 14, none, .mov (t 66)⟩]) (.seq (.ops [⟨some 67, none, .mov (t 14)⟩, ⟨some 68, none, .arith .geq (t 67) (v (I 0))⟩]) (.cond (t 68) (.draw [⟨some 69, none, .load none (t 9)⟩, ⟨some 70, none, .mov (t 14)⟩, ⟨some 71, none, .load none (t 9)⟩, ⟨some 72, none, .mov (t 14)⟩, ⟨some 73, none, .lookup .int (.slice none 0 0) false (t 71) (t 72)⟩, ⟨some 74, none, .load none (t 8)⟩, ⟨some 75, none, .mov (t 11)⟩, ⟨some 76, none, .call (t 74) [(t 75)]⟩, ⟨some 77, none, .buildSlice 3 1 [(I 0)] [(0, 1, (t 76))]⟩, ⟨some 78, none, .append 3 1 8 (t 73) (t 77)⟩] [⟨none, none, .mapUpdate .int (t 69) (t 70) (t 78)⟩]) .skip))))) (.ops [⟨some 79, none, .arith .add (t 57) (v (I 1))⟩, ⟨some 57, none, .mov (t 79)⟩]))))))) (.seq (.ops [⟨some 80, none, .fieldAddr 3 (t 6)⟩, ⟨some 81, none, .load none (t 80)⟩, ⟨some 82, none, .lenSl (t 81)⟩, ⟨some 83, none, .makeSlice 24 24 [(.slice none 0 0)] (t 82) (t 82)⟩, ⟨some 15, none, .box 55 (v (.slice none 0 0))⟩, ⟨none, none, .store 1 (t 15) (t 83)⟩]) (.seq (.seq (.ops [⟨some 84, none, .fieldAddr 3 (t 6)⟩, ⟨some 85, none, .load none (t 84)⟩, ⟨some 86, none, .call (v (Fn 42)) [(t 85)]⟩, ⟨some 87, none, .lenSl (t 86)⟩, ⟨some 88, none, .mov (v (I 0))⟩]) (.block 4 (.loop (.seq (.ops [⟨some 89, none, .arith .lss (t 88) (t 87)⟩]) (.seq (.cond (t 89) .skip (.exit 4)) (.seq (.block 5 (.seq (.ops [⟨some 90, none, .mov (t 88)⟩, ⟨some 91, none, .indexAddr 1 (t 86) (t 88)⟩, ⟨some 92, none, .load none (t 91)⟩, ⟨some 16, none, .mov (t 90)⟩, ⟨some 17, none, .mov (t 92)⟩]) (.seq (.ops [⟨some 93, none, .mov (t 17)⟩, ⟨some 94, none, .lenSl (t 93)⟩, ⟨some 95, none, .mov (v (I 0))⟩]) (.block 6 (.loop (.seq (.ops [⟨some 96, none, .arith .lss (t 95) (t 94)⟩]) (.seq (.cond (t 96) .skip (.exit 6)) (.seq (.block 7 (.seq (.ops [⟨some 97, none, .indexAddr 1 (t 93) (t 95)⟩, ⟨some 98, none, .load none (t 97)⟩, ⟨some 19, none, .mov (t 98)⟩]) (.draw [⟨some 99, none, .load none (t 15)⟩, ⟨some 100, none, .mov (t 19)⟩, ⟨some 101, none, .load none (t 15)⟩, ⟨some 102, none, .mov (t 19)⟩, ⟨some 103, none, .indexAddr 1 (t 101) (t 102)⟩, ⟨some 104, none, .load none (t 103)⟩, ⟨some 105, none, .mov (t 16)⟩, ⟨some 106, none, .buildSlice 3 1 [(I 0)] [(0, 1, (t 105))]⟩, ⟨some 107, none, .append 3 1 8 (t 104) (t 106)⟩] [⟨some 108, none, .indexAddr 1 (t 99) (t 100)⟩, ⟨none, none, .store 1 (t 108) (t 107)⟩]))) (.ops [⟨some 109, none, .arith .add (t 95) (v (I 1))⟩, ⟨some 95, none, .mov (t 109)⟩]))))))))) (.ops [⟨some 110, none, .arith .add (t 88) (v (I 1))⟩, ⟨some 88, none, .mov (t 110)⟩]))))))) (.seq (.ops [⟨some 111, none, .fieldAddr 3 (t 6)⟩, ⟨some 112, none, .load none (t 111)⟩, ⟨some 113, none, .lenSl (t 112)⟩, ⟨some 114, none, .makeSlice 85 24 [(.slice none 0 0)] (t 113) (t 113)⟩, ⟨some 20, none, .box 83 (v (.slice none 0 0))⟩, ⟨none, none, .store 1 (t 20) (t 114)⟩]) (.seq (.seq (.ops [⟨some 115, none, .load none (t 20)⟩, ⟨some 116, none, .lenSl (t 115)⟩, ⟨some 117, none, .mov (v (I 0))⟩]) (.block 8 (.loop (.seq (.ops [⟨some 118, none, .arith .lss (t 117) (t 116)⟩]) (.seq (.cond (t 118) .skip (.exit 8)) (.seq (.block 9 (.seq (.ops [⟨some 119, none, .mov (t 117)⟩, ⟨some 21, none, .mov (t 119)⟩]) (.draw [⟨some 120, none, .load none (t 20)⟩, ⟨some 121, none, .mov (t 21)⟩, ⟨some 122, none, .load none (t 8)⟩, ⟨some 123, none, .fieldAddr 3 (t 6)⟩, ⟨some 124, none, .load none (t 123)⟩, ⟨some 125, none, .lenSl (t 124)⟩, ⟨some 126, none, .call (t 122) [(t 125)]⟩, ⟨some 127, none, .call (v (Fn 43)) [(t 126)]⟩] [⟨some 128, none, .indexAddr 1 (t 120) (t 121)⟩, ⟨none, none, .store 1 (t 128) (t 127)⟩]))) (.ops [⟨some 129, none, .arith .add (t 117) (v (I 1))⟩, ⟨some 117, none, .mov (t 129)⟩]))))))) (.seq (.seq (.ops [⟨some 130, none, .fieldAddr 1 (t 6)⟩, ⟨some 131, none, .load none (t 130)⟩, ⟨some 132, none, .mov (v (I 0))⟩]) (.block 10 (.loop (.seq (.ops [⟨some 133, none, .arith .lss (t 132) (t 131)⟩]) (.seq (.cond (t 133) .skip (.exit 10)) (.seq (.block 11 (.seq (.ops [⟨some 134, none, .mov (t 132)⟩, ⟨some 22, none, .mov (t 134)⟩]) (.draw [⟨some 135, none, .load none (t 20)⟩, ⟨some 136, none, .indexAddr 1 (t 135) (v (I 0))⟩, ⟨some 137, none, .load none (t 136)⟩, ⟨some 138, none, .load none (t 8)⟩, ⟨some 139, none, .mov (t 22)⟩, ⟨some 140, none, .arith .sub (v (I (-1))) (t 139)⟩, ⟨some 141, none, .call (t 138) [(t 140)]⟩] [⟨some 142, none, .call (v (Fn 50)) [(t 137), (t 141)]⟩]))) (.ops [⟨some 143, none, .arith .add (t 132) (v (I 1))⟩, ⟨some 132, none, .mov (t 143)⟩]))))))) (.seq (.ops [⟨some 144, none, .fieldAddr 3 (t 6)⟩, ⟨some 145, none, .load none (t 144)⟩, ⟨some 146, none, .load none (t 20)⟩, ⟨some 147, none, .func 56 [] [(t 15)]⟩, ⟨some 148, none, .func 57 [] [(t 20), (t 6), (t 9), (t 8)]⟩, ⟨some 149, none, .call (v (Fn 44)) [(t 145), (t 146), (t 147), (t 148)]⟩]) (.seq (.ops [⟨some 23, none, .mov (v (.slice none 0 0))⟩]) (.seq (.seq (.ops [⟨some 150, none, .load none (t 20)⟩, ⟨some 151, none, .lenSl (t 150)⟩, ⟨some 152, none, .mov (v (I 0))⟩]) (.block 12 (.loop (.seq (.ops [⟨some 153, none, .arith .lss (t 152) (t 151)⟩]) (.seq (.cond (t 153) .skip (.exit 12)) (.seq (.block 13 (.seq (.ops [⟨some 154, none, .indexAddr 1 (t 150) (t 152)⟩, ⟨some 155, none, .load none (t 154)⟩, ⟨some 25, none, .mov (t 155)⟩]) (.ops [⟨some 156, none, .mov (t 23)⟩, ⟨some 157, none, .mov (t 25)⟩, ⟨some 158, none, .fieldAddr 1 (t 6)⟩, ⟨some 159, none, .load none (t 158)⟩, ⟨some 160, none, .un .neg (t 159)⟩, ⟨some 161, none, .call (v (Fn 51)) [(t 157), (t 160)]⟩, ⟨some 162, none, .buildSlice 24 1 [(.slice none 0 0)] [(0, 1, (t 161))]⟩, ⟨some 163, none, .append 24 1 24 (t 156) (t 162)⟩, ⟨some 23, none, .mov (t 163)⟩]))) (.ops [⟨some 164, none, .arith .add (t 152) (v (I 1))⟩, ⟨some 152, none, .mov (t 164)⟩]))))))) (.seq (.ops [⟨some 165, none, .mov (t 23)⟩, ⟨some 4, none, .mov (t 165)⟩, ⟨some 5, none, .mov (v (I 0))⟩]) .ret))))))))))))))))⟩
def ir27 : IFunc := ⟨118, [.tmp 4, .tmp 5], (.seq (.ops [⟨some 2, none, .box 53 (t 0)⟩, ⟨some 4, none, .mov (v (.slice none 0 0))⟩, ⟨some 5, none, .mov (v (I 0))⟩]) (.seq (.seq (.ops [⟨some 17, none, .load (some 2) (t 2)⟩, ⟨some 18, none, .mov (t 1)⟩, ⟨some 19, none, .call (v (Fn 52)) [(t 17), (t 18)]⟩, ⟨some 6, none, .mov (t 19)⟩]) (.seq (.ops [⟨some 20, none, .mov (t 6)⟩, ⟨some 21, none, .arith .neq (t 20) (v (I 0))⟩]) (.cond (t 21) (.seq (.ops [⟨some 22, none, .mov (t 6)⟩, ⟨some 4, none, .mov (v (.slice none 0 0))⟩, ⟨some 5, none, .mov (t 22)⟩]) .ret) .skip))) (.seq (.ops [⟨some 23, none, .fieldAddr 1 (t 2)⟩, ⟨some 24, none, .load none (t 23)⟩, ⟨some 25, none, .mov (t 1)⟩, ⟨some 26, none, .indexAddr 4 (t 24) (t 25)⟩, ⟨some 27, none, .load (some 4) (t 26)⟩, ⟨some 7, none, .box 65 (v (.agg #[(S []), (I 0), (I 0), (.slice none 0 0)]))⟩, ⟨none, none, .store 4 (t 7) (t 27)⟩]) (.seq (.ops [⟨some 28, none, .fieldAddr 3 (t 7)⟩, ⟨some 29, none, .load none (t 28)⟩, ⟨some 30, none, .lenSl (t 29)⟩, ⟨some 31, none, .makeSlice 24 24 [(.slice none 0 0)] (t 30) (t 30)⟩, ⟨some 8, none, .mov (t 31)⟩]) (.seq (.seq (.ops [⟨some 9, none, .mov (v (I 0))⟩]) (.block 0 (.loop (.seq (.seq (.ops [⟨some 32, none, .mov (t 9)⟩, ⟨some 33, none, .fieldAddr 1 (t 7)⟩, ⟨some 34, none, .load none (t 33)⟩, ⟨some 35, none, .arith .lss (t 32) (t 34)⟩]) (.cond (t 35) .skip (.exit 0))) (.seq (.block 1 (.ops [⟨some 38, none, .mov (t 8)⟩, ⟨some 39, none, .mov (t 8)⟩, ⟨some 40, none, .indexAddr 1 (t 39) (v (I 0))⟩, ⟨some 41, none, .load none (t 40)⟩, ⟨some 42, none, .mov (t 9)⟩, ⟨some 43, none, .arith .sub (v (I (-1))) (t 42)⟩, ⟨some 44, none, .call (v (Fn 34)) [(t 41), (t 43)]⟩, ⟨some 45, none, .indexAddr 1 (t 38) (v (I 0))⟩, ⟨none, none, .store 1 (t 45) (t 44)⟩])) (.ops [⟨some 36, none, .mov (t 9)⟩, ⟨some 37, none, .arith .add (t 36) (v (I 1))⟩, ⟨some 9, none, .mov (t 37)⟩])))))) (.seq (.seq (.ops [⟨some 10, none, .mov (v (.bool true))⟩]) (.block 2 (.loop (.seq (.seq (.ops [⟨some 46, none, .mov (t 10)⟩]) (.cond (t 46) .skip (.exit 2))) (.block 3 (.seq (.ops [⟨some 10, none, .mov (v (.bool false))⟩]) (.seq (.ops [⟨some 11, none, .mov (v (I 0))⟩]) (.block 4 (.loop (.seq (.seq (.ops [⟨some 47, none, .mov (t 11)⟩, ⟨some 48, none, .fieldAddr 3 (t 7)⟩, ⟨some 49, none, .load none (t 48)⟩, ⟨some 50, none, .lenSl (t 49)⟩, ⟨some 51, none, .arith .lss (t 47) (t 50)⟩]) (.cond (t 51) .skip (.exit 4))) (.seq (.block 5 (.seq (.ops [⟨some 54, none, .fieldAddr 3 (t 7)⟩, ⟨some 55, none, .load none (t 54)⟩, ⟨some 56, none, .mov (t 11)⟩, ⟨some 57, none, .call (v (Fn 53)) [(t 55), (t 56)]⟩, ⟨some 12, none, .mov (t 57)⟩]) (.seq (.draw [⟨some 58, none, .fieldAddr 3 (t 7)⟩, ⟨some 59, none, .load none (t 58)⟩, ⟨some 60, none, .mov (t 11)⟩, ⟨some 61, none, .mov (t 8)⟩, ⟨some 62, none, .mov (t 11)⟩, ⟨some 63, none, .indexAddr 1 (t 61) (t 62)⟩, ⟨some 64, none, .load none (t 63)⟩] [⟨some 65, none, .call (v (Fn 58)) [(t 59), (t 60), (t 64)]⟩, ⟨some 13, none, .mov (t 65)⟩]) (.seq (.ops [⟨some 14, none, .mov (v (I 0))⟩]) (.block 6 (.loop (.seq (.seq (.ops [⟨some 66, none, .mov (t 14)⟩, ⟨some 67, none, .mov (t 12)⟩, ⟨some 68, none, .lenSl (t 67)⟩, ⟨some 69, none, .arith .lss (t 66) (t 68)⟩]) (.cond (t 69) .skip (.exit 6))) (.seq (.block 7 (.seq (.ops [⟨some 72, none, .mov (t 8)⟩, ⟨some 73, none, .mov (t 12)⟩, ⟨some 74, none, .mov (t 14)⟩, ⟨some 75, none, .indexAddr 1 (t 73) (t 74)⟩, ⟨some 76, none, .load none (t 75)⟩, ⟨some 77, none, .indexAddr 1 (t 72) (t 76)⟩, ⟨some 78, none, .load none (t 77)⟩, ⟨some 79, none, .lenSl (t 78)⟩, ⟨some 15, none, .mov (t 79)⟩]) (.seq (.seq (.ops [⟨some 16, none, .mov (v (I 0))⟩]) (.block 8 (.loop (.seq (.seq (.ops [⟨some 80, none, .mov (t 16)⟩, ⟨some 81, none, .mov (t 13)⟩, ⟨some 82, none, .lenSl (t 81)⟩, ⟨some 83, none, .arith .lss (t 80) (t 82)⟩]) (.cond (t 83) .skip (.exit 8))) (.seq (.block 9 (.draw [⟨some 86, none, .mov (t 8)⟩, ⟨some 87, none, .mov (t 12)⟩, ⟨some 88, none, .mov (t 14)⟩, ⟨some 89, none, .indexAddr 1 (t 87) (t 88)⟩, ⟨some 90, none, .load none (t 89)⟩, ⟨some 91, none, .mov (t 8)⟩, ⟨some 92, none, .mov (t 12)⟩, ⟨some 93, none, .mov (t 14)⟩, ⟨some 94, none, .indexAddr 1 (t 92) (t 93)⟩, ⟨some 95, none, .load none (t 94)⟩, ⟨some 96, none, .indexAddr 1 (t 91) (t 95)⟩, ⟨some 97, none, .load none (t 96)⟩, ⟨some 98, none, .mov (t 13)⟩, ⟨some 99, none, .mov (t 16)⟩, ⟨some 100, none, .indexAddr 1 (t 98) (t 99)⟩, ⟨some 101, none, .load none (t 100)⟩, ⟨some 102, none, .call (v (Fn 34)) [(t 97), (t 101)]⟩] [⟨some 103, none, .indexAddr 1 (t 86) (t 90)⟩, ⟨none, none, .store 1 (t 103) (t 102)⟩])) (.ops [⟨some 84, none, .mov (t 16)⟩, ⟨some 85, none, .arith .add (t 84) (v (I 1))⟩, ⟨some 16, none, .mov (t 85)⟩])))))) (.ops [⟨some 104, none, .mov (t 10)⟩, ⟨some 105, none, .mov (t 104)⟩, ⟨some 106, some (105, false), .mov (t 8)⟩, ⟨some 107, some (105, false), .mov (t 12)⟩, ⟨some 108, some (105, false), .mov (t 14)⟩, ⟨some 109, some (105, false), .indexAddr 1 (t 107) (t 108)⟩, ⟨some 110, some (105, false), .load none (t 109)⟩, ⟨some 111, some (105, false), .indexAddr 1 (t 106) (t 110)⟩, ⟨some 112, some (105, false), .load none (t 111)⟩, ⟨some 113, some (105, false), .lenSl (t 112)⟩, ⟨some 114, some (105, false), .mov (t 15)⟩, ⟨some 115, some (105, false), .arith .gtr (t 113) (t 114)⟩, ⟨some 116, none, .pick (t 105) (v (.bool true)) (t 115)⟩, ⟨some 10, none, .mov (t 116)⟩])))) (.ops [⟨some 70, none, .mov (t 14)⟩, ⟨some 71, none, .arith .add (t 70) (v (I 1))⟩, ⟨some 14, none, .mov (t 71)⟩]))))))))) (.ops [⟨some 52, none, .mov (t 11)⟩, ⟨some 53, none, .arith .add (t 52) (v (I 1))⟩, ⟨some 11, none, .mov (t 53)⟩])))))))))))) (.seq (.ops [⟨some 117, none, .mov (t 8)⟩, ⟨some 4, none, .mov (t 117)⟩, ⟨some 5, none, .mov (v (I 0))⟩]) .ret)))))))⟩
def ir28 : IFunc := ⟨8, [.tmp 4], (.seq (.ops [⟨some 4, none, .mov (v (.bool false))⟩]) (.seq (.ops [⟨some 5, none, .mov (t 0)⟩, ⟨some 6, none, .mov (t 1)⟩, ⟨some 7, none, .call (v (Fn 59)) [(t 5), (t 6), (v (Fn 13))]⟩, ⟨some 4, none, .mov (t 7)⟩]) .ret))⟩
def ir30 : IFunc := ⟨20, [.tmp 4, .tmp 5], (.seq (.ops [⟨some 2, none, .box 53 (t 0)⟩, ⟨some 4, none, .mov (v (.slice none 0 0))⟩, ⟨some 5, none, .mov (v (I 0))⟩]) (.seq (.ops [⟨some 9, none, .load (some 2) (t 2)⟩, ⟨some 10, none, .mov (t 1)⟩, ⟨some 11, none, .call (v (Fn 41)) [(t 9), (t 10)]⟩, ⟨some 8, none, .mov (t 11)⟩, ⟨some 12, none, .extract (t 8) 0⟩, ⟨some 13, none, .extract (t 8) 1⟩, ⟨some 6, none, .box 65 (v (.agg #[(S []), (I 0), (I 0), (.slice none 0 0)]))⟩, ⟨none, none, .store 4 (t 6) (t 12)⟩, ⟨some 7, none, .mov (t 13)⟩]) (.seq (.seq (.ops [⟨some 14, none, .mov (t 7)⟩, ⟨some 15, none, .arith .neq (t 14) (v (I 0))⟩]) (.cond (t 15) (.seq (.ops [⟨some 16, none, .mov (t 7)⟩, ⟨some 4, none, .mov (v (.slice none 0 0))⟩, ⟨some 5, none, .mov (t 16)⟩]) .ret) .skip)) (.seq (.ops [⟨some 17, none, .fieldAddr 3 (t 6)⟩, ⟨some 18, none, .load none (t 17)⟩, ⟨some 19, none, .call (v (Fn 60)) [(t 18)]⟩, ⟨some 4, none, .mov (t 19)⟩, ⟨some 5, none, .mov (v (I 0))⟩]) .ret))))⟩
def ir31 : IFunc := ⟨57, [.tmp 2], (.seq (.ops [⟨some 2, none, .mov (v (.slice none 0 0))⟩]) (.seq (.ops [⟨some 8, none, .mov (t 0)⟩, ⟨some 9, none, .call (v (Fn 15)) [(t 8)]⟩, ⟨some 3, none, .mov (t 9)⟩]) (.seq (.ops [⟨some 10, none, .mov (t 0)⟩, ⟨some 11, none, .lenSl (t 10)⟩, ⟨some 12, none, .makeSlice 42 24 [(.slice none 0 0)] (t 11) (t 11)⟩, ⟨some 4, none, .mov (t 12)⟩]) (.seq (.seq (.ops [⟨some 13, none, .mov (t 0)⟩, ⟨some 14, none, .lenSl (t 13)⟩, ⟨some 15, none, .mov (v (I 0))⟩]) (.block 0 (.loop (.seq (.ops [⟨some 16, none, .arith .lss (t 15) (t 14)⟩]) (.seq (.cond (t 16) .skip (.exit 0)) (.seq (.block 1 (.seq (.ops [⟨some 17, none, .mov (t 15)⟩, ⟨some 5, none, .mov (t 17)⟩]) (.seq (.ops [⟨some 18, none, .mov (t 4)⟩, ⟨some 19, none, .mov (t 5)⟩, ⟨some 20, none, .mov (t 0)⟩, ⟨some 21, none, .lenSl (t 20)⟩, ⟨some 22, none, .makeSlice 4 1 [(.bool false)] (t 21) (t 21)⟩, ⟨some 23, none, .indexAddr 1 (t 18) (t 19)⟩, ⟨none, none, .store 1 (t 23) (t 22)⟩]) (.seq (.seq (.ops [⟨some 24, none, .mov (t 3)⟩, ⟨some 25, none, .mov (t 5)⟩, ⟨some 26, none, .indexAddr 1 (t 24) (t 25)⟩, ⟨some 27, none, .load none (t 26)⟩, ⟨some 28, none, .un .not (t 27)⟩]) (.cond (t 28) (.exit 1) .skip)) (.seq (.ops [⟨some 29, none, .mov (t 0)⟩, ⟨some 30, none, .mov (t 5)⟩, ⟨some 31, none, .call (v (Fn 36)) [(t 29), (t 30)]⟩, ⟨some 6, none, .mov (t 31)⟩]) (.seq (.ops [⟨some 32, none, .mov (t 0)⟩, ⟨some 33, none, .lenSl (t 32)⟩, ⟨some 34, none, .mov (v (I 0))⟩]) (.block 2 (.loop (.seq (.ops [⟨some 35, none, .arith .lss (t 34) (t 33)⟩]) (.seq (.cond (t 35) .skip (.exit 2)) (.seq (.block 3 (.seq (.ops [⟨some 36, none, .mov (t 34)⟩, ⟨some 7, none, .mov (t 36)⟩]) (.draw [⟨some 37, none, .mov (t 4)⟩, ⟨some 38, none, .mov (t 5)⟩, ⟨some 39, none, .indexAddr 1 (t 37) (t 38)⟩, ⟨some 40, none, .load none (t 39)⟩, ⟨some 41, none, .mov (t 7)⟩, ⟨some 42, none, .mov (t 3)⟩, ⟨some 43, none, .mov (t 7)⟩, ⟨some 44, none, .indexAddr 1 (t 42) (t 43)⟩, ⟨some 45, none, .load none (t 44)⟩, ⟨some 46, none, .mov (t 45)⟩, ⟨some 47, some (46, true), .mov (t 6)⟩, ⟨some 48, some (46, true), .mov (t 7)⟩, ⟨some 49, some (46, true), .indexAddr 1 (t 47) (t 48)⟩, ⟨some 50, some (46, true), .load none (t 49)⟩, ⟨some 51, some (46, true), .un .not (t 50)⟩, ⟨some 52, none, .pick (t 46) (t 51) (v (.bool false))⟩] [⟨some 53, none, .indexAddr 1 (t 40) (t 41)⟩, ⟨none, none, .store 1 (t 53) (t 52)⟩]))) (.ops [⟨some 54, none, .arith .add (t 34) (v (I 1))⟩, ⟨some 34, none, .mov (t 54)⟩])))))))))))) (.ops [⟨some 55, none, .arith .add (t 15) (v (I 1))⟩, ⟨some 15, none, .mov (t 55)⟩]))))))) (.seq (.ops [⟨some 56, none, .mov (t 4)⟩, ⟨some 2, none, .mov (t 56)⟩]) .ret)))))⟩
def ir32 : IFunc := ⟨6, [.tmp 4], (.seq (.ops [⟨some 2, none, .box 29 (t 0)⟩, ⟨some 3, none, .box 3 (t 1)⟩, ⟨some 4, none, .mov (v .nilFunc)⟩]) (.seq (.ops [⟨some 5, none, .func 61 [] [(t 2), (t 3)]⟩, ⟨some 4, none, .mov (t 5)⟩]) .ret))⟩
def ir34 : IFunc := ⟨36, [.tmp 4], (.seq (.ops [⟨some 4, none, .mov (v (.slice none 0 0))⟩]) (.seq (.seq (.ops [⟨some 6, none, .mov (t 0)⟩, ⟨some 7, none, .mov (t 1)⟩, ⟨some 8, none, .call (v (Fn 35)) [(t 6), (t 7)]⟩]) (.cond (t 8) (.seq (.ops [⟨some 9, none, .mov (t 0)⟩, ⟨some 4, none, .mov (t 9)⟩]) .ret) .skip)) (.seq (.ops [⟨some 5, none, .mov (v (I 0))⟩]) (.seq (.block 0 (.loop (.seq (.seq (.ops [⟨some 10, none, .mov (t 5)⟩, ⟨some 11, none, .mov (t 0)⟩, ⟨some 12, none, .lenSl (t 11)⟩, ⟨some 13, none, .arith .lss (t 10) (t 12)⟩, ⟨some 14, none, .mov (t 13)⟩, ⟨some 15, some (14, true), .mov (t 0)⟩, ⟨some 16, some (14, true), .mov (t 5)⟩, ⟨some 17, some (14, true), .indexAddr 1 (t 15) (t 16)⟩, ⟨some 18, some (14, true), .load none (t 17)⟩, ⟨some 19, some (14, true), .mov (t 1)⟩, ⟨some 20, some (14, true), .arith .lss (t 18) (t 19)⟩, ⟨some 21, none, .pick (t 14) (t 20) (v (.bool false))⟩]) (.cond (t 21) .skip (.exit 0))) (.block 1 (.ops [⟨some 22, none, .mov (t 5)⟩, ⟨some 23, none, .arith .add (t 22) (v (I 1))⟩, ⟨some 5, none, .mov (t 23)⟩]))))) (.seq (.draw [⟨some 24, none, .buildSlice 3 0 [] []⟩, ⟨some 25, none, .mov (t 0)⟩, ⟨some 26, none, .mov (t 5)⟩, ⟨some 27, none, .slice 3 1 (t 25) none (some (t 26)) none⟩, ⟨some 28, none, .append 3 1 8 (t 24) (t 27)⟩, ⟨some 29, none, .mov (t 1)⟩, ⟨some 30, none, .buildSlice 3 1 [(I 0)] [(0, 1, (t 29))]⟩, ⟨some 31, none, .append 3 1 8 (t 28) (t 30)⟩, ⟨some 32, none, .mov (t 0)⟩, ⟨some 33, none, .mov (t 5)⟩, ⟨some 34, none, .slice 3 1 (t 32) (some (t 33)) none none⟩] [⟨some 35, none, .append 3 1 8 (t 31) (t 34)⟩, ⟨some 4, none, .mov (t 35)⟩]) .ret)))))⟩
def ir35 : IFunc := ⟨18, [.tmp 4], (.seq (.ops [⟨some 4, none, .mov (v (.bool false))⟩]) (.seq (.seq (.ops [⟨some 5, none, .mov (v (I 0))⟩]) (.block 0 (.loop (.seq (.seq (.ops [⟨some 6, none, .mov (t 5)⟩, ⟨some 7, none, .mov (t 0)⟩, ⟨some 8, none, .lenSl (t 7)⟩, ⟨some 9, none, .arith .lss (t 6) (t 8)⟩]) (.cond (t 9) .skip (.exit 0))) (.seq (.block 1 (.seq (.ops [⟨some 12, none, .mov (t 0)⟩, ⟨some 13, none, .mov (t 5)⟩, ⟨some 14, none, .indexAddr 1 (t 12) (t 13)⟩, ⟨some 15, none, .load none (t 14)⟩, ⟨some 16, none, .mov (t 1)⟩, ⟨some 17, none, .arith .eql (t 15) (t 16)⟩]) (.cond (t 17) (.seq (.ops [⟨some 4, none, .mov (v (.bool true))⟩]) .ret) .skip))) (.ops [⟨some 10, none, .mov (t 5)⟩, ⟨some 11, none, .arith .add (t 10) (v (I 1))⟩, ⟨some 5, none, .mov (t 11)⟩])))))) (.seq (.ops [⟨some 4, none, .mov (v (.bool false))⟩]) .ret)))⟩
def ir36 : IFunc := ⟨59, [.tmp 4], (.seq (.ops [⟨some 3, none, .box 3 (t 1)⟩, ⟨some 4, none, .mov (v (.slice none 0 0))⟩]) (.seq (.ops [⟨some 9, none, .mov (t 0)⟩, ⟨some 10, none, .lenSl (t 9)⟩, ⟨some 11, none, .makeSlice 4 1 [(.bool false)] (t 10) (t 10)⟩, ⟨some 5, none, .box 42 (v (.slice none 0 0))⟩, ⟨none, none, .store 1 (t 5) (t 11)⟩]) (.seq (.seq (.ops [⟨some 12, none, .mov (t 0)⟩, ⟨some 13, none, .lenSl (t 12)⟩, ⟨some 14, none, .arith .eql (t 13) (v (I 0))⟩, ⟨some 15, none, .mov (t 14)⟩, ⟨some 16, some (15, false), .load none (t 3)⟩, ⟨some 17, some (15, false), .arith .eql (t 16) (v (I 0))⟩, ⟨some 18, none, .pick (t 15) (v (.bool true)) (t 17)⟩]) (.cond (t 18) (.seq (.ops [⟨some 19, none, .load none (t 5)⟩, ⟨some 4, none, .mov (t 19)⟩]) .ret) .skip)) (.seq (.ops [⟨some 20, none, .load none (t 5)⟩, ⟨some 21, none, .indexAddr 1 (t 20) (v (I 0))⟩, ⟨none, none, .store 1 (t 21) (v (.bool true))⟩]) (.seq (.ops [⟨some 22, none, .buildSlice 3 1 [(I 0)] [(0, 1, (v (I 0)))]⟩, ⟨some 6, none, .box 24 (v (.slice none 0 0))⟩, ⟨none, none, .store 1 (t 6) (t 22)⟩]) (.seq .skip (.seq (.block 0 (.loop (.block 1 (.seq (.seq (.ops [⟨some 23, none, .load none (t 6)⟩, ⟨some 24, none, .lenSl (t 23)⟩, ⟨some 25, none, .arith .eql (t 24) (v (I 0))⟩]) (.cond (t 25) (.exit 0) .skip)) (.seq (.ops [⟨some 26, none, .load none (t 6)⟩, ⟨some 27, none, .load none (t 6)⟩, ⟨some 28, none, .lenSl (t 27)⟩, ⟨some 29, none, .arith .sub (t 28) (v (I 1))⟩, ⟨some 30, none, .indexAddr 1 (t 26) (t 29)⟩, ⟨some 31, none, .load none (t 30)⟩, ⟨some 7, none, .mov (t 31)⟩]) (.seq (.ops [⟨some 32, none, .load none (t 6)⟩, ⟨some 33, none, .load none (t 6)⟩, ⟨some 34, none, .lenSl (t 33)⟩, ⟨some 35, none, .arith .sub (t 34) (v (I 1))⟩, ⟨some 36, none, .slice 3 1 (t 32) none (some (t 35)) none⟩, ⟨none, none, .store 1 (t 6) (t 36)⟩]) (.seq (.ops [⟨some 37, none, .mov (t 0)⟩, ⟨some 38, none, .mov (t 7)⟩, ⟨some 39, none, .call (v (Fn 32)) [(t 37), (t 38)]⟩]) (.block 2 (.rangeFunc (t 39) [40] (.ops [⟨some 8, none, .mov (t 40)⟩]) (.block 3 (.seq (.ops [⟨some 41, none, .mov (t 8)⟩, ⟨some 42, none, .load none (t 3)⟩, ⟨some 43, none, .arith .neq (t 41) (t 42)⟩, ⟨some 44, none, .mov (t 43)⟩, ⟨some 45, some (44, true), .load none (t 5)⟩, ⟨some 46, some (44, true), .mov (t 8)⟩, ⟨some 47, some (44, true), .indexAddr 1 (t 45) (t 46)⟩, ⟨some 48, some (44, true), .load none (t 47)⟩, ⟨some 49, some (44, true), .un .not (t 48)⟩, ⟨some 50, none, .pick (t 44) (t 49) (v (.bool false))⟩]) (.cond (t 50) (.seq (.ops [⟨some 51, none, .load none (t 5)⟩, ⟨some 52, none, .mov (t 8)⟩, ⟨some 53, none, .indexAddr 1 (t 51) (t 52)⟩, ⟨none, none, .store 1 (t 53) (v (.bool true))⟩]) (.ops [⟨some 54, none, .load none (t 6)⟩, ⟨some 55, none, .mov (t 8)⟩, ⟨some 56, none, .buildSlice 3 1 [(I 0)] [(0, 1, (t 55))]⟩, ⟨some 57, none, .append 3 1 8 (t 54) (t 56)⟩, ⟨none, none, .store 1 (t 6) (t 57)⟩])) .skip)))))))))))) (.seq (.ops [⟨some 58, none, .load none (t 5)⟩, ⟨some 4, none, .mov (t 58)⟩]) .ret))))))))⟩
def ir41 : IFunc := ⟨28, [.cell 4 (some 4), .tmp 5], (.seq (.ops [⟨some 2, none, .box 53 (t 0)⟩, ⟨some 4, none, .box 65 (v (.agg #[(S []), (I 0), (I 0), (.slice none 0 0)]))⟩, ⟨some 5, none, .mov (v (I 0))⟩]) (.seq (.seq (.ops [⟨some 7, none, .load (some 2) (t 2)⟩, ⟨some 8, none, .call (v (Fn 63)) [(t 7)]⟩, ⟨some 6, none, .mov (t 8)⟩]) (.seq (.ops [⟨some 9, none, .mov (t 6)⟩, ⟨some 10, none, .arith .neq (t 9) (v (I 0))⟩]) (.cond (t 10) (.seq (.ops [⟨some 11, none, .build [(S []), (I 0), (I 0), (.slice none 0 0)] []⟩, ⟨some 12, none, .mov (t 6)⟩, ⟨none, none, .store 4 (t 4) (t 11)⟩, ⟨some 5, none, .mov (t 12)⟩]) .ret) .skip))) (.seq (.seq (.ops [⟨some 13, none, .mov (t 1)⟩, ⟨some 14, none, .arith .lss (t 13) (v (I 0))⟩, ⟨some 15, none, .mov (t 14)⟩, ⟨some 16, some (15, false), .mov (t 1)⟩, ⟨some 17, some (15, false), .fieldAddr 1 (t 2)⟩, ⟨some 18, some (15, false), .load none (t 17)⟩, ⟨some 19, some (15, false), .lenSl (t 18)⟩, ⟨some 20, some (15, false), .arith .geq (t 16) (t 19)⟩, ⟨some 21, none, .pick (t 15) (v (.bool true)) (t 20)⟩]) (.cond (t 21) (.seq (.ops [⟨some 22, none, .build [(S []), (I 0), (I 0), (.slice none 0 0)] []⟩, ⟨none, none, .store 4 (t 4) (t 22)⟩, ⟨some 5, none, .mov (v (I 250))⟩]) .ret) .skip)) (.seq (.ops [⟨some 23, none, .fieldAddr 1 (t 2)⟩, ⟨some 24, none, .load none (t 23)⟩, ⟨some 25, none, .mov (t 1)⟩, ⟨some 26, none, .indexAddr 4 (t 24) (t 25)⟩, ⟨some 27, none, .load (some 4) (t 26)⟩, ⟨none, none, .store 4 (t 4) (t 27)⟩, ⟨some 5, none, .mov (v (I 0))⟩]) .ret))))⟩
def ir42 : IFunc := ⟨46, [.tmp 2], (.seq (.ops [⟨some 2, none, .mov (v (.slice none 0 0))⟩]) (.seq (.ops [⟨some 3, none, .mov (v (.slice none 0 0))⟩]) (.seq (.seq (.ops [⟨some 6, none, .mov (t 0)⟩, ⟨some 7, none, .lenSl (t 6)⟩, ⟨some 8, none, .mov (v (I 0))⟩]) (.block 0 (.loop (.seq (.ops [⟨some 9, none, .arith .lss (t 8) (t 7)⟩]) (.seq (.cond (t 9) .skip (.exit 0)) (.seq (.block 1 (.seq (.ops [⟨some 10, none, .mov (t 8)⟩, ⟨some 11, none, .indexAddr 7 (t 6) (t 8)⟩, ⟨some 12, none, .load (some 7) (t 11)⟩, ⟨some 5, none, .box 62 (v (.agg #[(I 0), (I 0), (I 0), (I 0), (I 0), (S []), (.slice none 0 0)]))⟩, ⟨some 4, none, .mov (t 10)⟩, ⟨none, none, .store 7 (t 5) (t 12)⟩]) (.seq (.ops [⟨some 13, none, .fieldAddr 0 (t 5)⟩, ⟨some 14, none, .load none (t 13)⟩]) (.block 2 (.seq (.ops [⟨some 22, none, .arith .eql (t 14) (v (I 22))⟩, ⟨some 21, none, .mov (t 22)⟩]) (.cond (t 21) (.ops [⟨some 23, none, .mov (t 3)⟩, ⟨some 24, none, .buildSlice 24 1 [(.slice none 0 0)] [(0, 1, (v (.slice none 0 0)))]⟩, ⟨some 25, none, .append 24 1 24 (t 23) (t 24)⟩, ⟨some 3, none, .mov (t 25)⟩]) (.seq (.ops [⟨some 27, none, .arith .eql (t 14) (v (I 19))⟩, ⟨some 26, none, .mov (t 27)⟩]) (.cond (t 26) (.ops [⟨some 28, none, .mov (t 3)⟩, ⟨some 29, none, .fieldAddr 3 (t 5)⟩, ⟨some 30, none, .load none (t 29)⟩, ⟨some 31, none, .buildSlice 3 1 [(I 0)] [(0, 1, (t 30))]⟩, ⟨some 32, none, .buildSlice 24 1 [(.slice none 0 0)] [(0, 1, (t 31))]⟩, ⟨some 33, none, .append 24 1 24 (t 28) (t 32)⟩, ⟨some 3, none, .mov (t 33)⟩]) (.seq (.ops [⟨some 35, none, .arith .eql (t 14) (v (I 20))⟩, ⟨some 34, none, .mov (t 35)⟩]) (.cond (t 34) (.ops [⟨some 36, none, .mov (t 3)⟩, ⟨some 37, none, .mov (t 4)⟩, ⟨some 38, none, .arith .add (t 37) (v (I 1))⟩, ⟨some 39, none, .fieldAddr 3 (t 5)⟩, ⟨some 40, none, .load none (t 39)⟩, ⟨some 41, none, .buildSlice 3 2 [(I 0), (I 0)] [(0, 1, (t 38)), (1, 1, (t 40))]⟩, ⟨some 42, none, .buildSlice 24 1 [(.slice none 0 0)] [(0, 1, (t 41))]⟩, ⟨some 43, none, .append 24 1 24 (t 36) (t 42)⟩, ⟨some 3, none, .mov (t 43)⟩]) (.ops [⟨some 15, none, .mov (t 3)⟩, ⟨some 16, none, .mov (t 4)⟩, ⟨some 17, none, .arith .add (t 16) (v (I 1))⟩, ⟨some 18, none, .buildSlice 3 1 [(I 0)] [(0, 1, (t 17))]⟩, ⟨some 19, none, .buildSlice 24 1 [(.slice none 0 0)] [(0, 1, (t 18))]⟩, ⟨some 20, none, .append 24 1 24 (t 15) (t 19)⟩, ⟨some 3, none, .mov (t 20)⟩]))))))))))) (.ops [⟨some 44, none, .arith .add (t 8) (v (I 1))⟩, ⟨some 8, none, .mov (t 44)⟩]))))))) (.seq (.ops [⟨some 45, none, .mov (t 3)⟩, ⟨some 2, none, .mov (t 45)⟩]) .ret))))⟩
def ir43 : IFunc := ⟨7, [.tmp 2], (.seq (.ops [⟨some 2, none, .mov (v (.slice none 0 0))⟩]) (.seq (.ops [⟨some 3, none, .mov (t 0)⟩, ⟨some 4, none, .arith .quo (t 3) (v (I 64))⟩, ⟨some 5, none, .arith .add (t 4) (v (I 1))⟩, ⟨some 6, none, .makeSlice 90 8 [(.int .u64 0)] (t 5) (t 5)⟩, ⟨some 2, none, .mov (t 6)⟩]) .ret))⟩
def ir44 : IFunc := ⟨39, [], (.seq (.ops [⟨some 8, none, .mov (v (.bool true))⟩]) (.block 0 (.loop (.seq (.seq (.ops [⟨some 12, none, .mov (t 8)⟩]) (.cond (t 12) .skip (.exit 0))) (.block 1 (.seq (.ops [⟨some 8, none, .mov (v (.bool false))⟩]) (.seq (.ops [⟨some 13, none, .mov (t 0)⟩, ⟨some 14, none, .lenSl (t 13)⟩, ⟨some 15, none, .mov (v (I 0))⟩]) (.block 2 (.loop (.seq (.ops [⟨some 16, none, .arith .lss (t 15) (t 14)⟩]) (.seq (.cond (t 16) .skip (.exit 2)) (.seq (.block 3 (.seq (.ops [⟨some 17, none, .mov (t 15)⟩, ⟨some 9, none, .mov (t 17)⟩]) (.seq (.ops [⟨some 18, none, .mov (t 2)⟩, ⟨some 19, none, .mov (t 9)⟩, ⟨some 20, none, .call (t 18) [(t 19)]⟩, ⟨some 21, none, .lenSl (t 20)⟩, ⟨some 22, none, .mov (v (I 0))⟩]) (.block 4 (.loop (.seq (.ops [⟨some 23, none, .arith .lss (t 22) (t 21)⟩]) (.seq (.cond (t 23) .skip (.exit 4)) (.seq (.block 5 (.seq (.ops [⟨some 24, none, .indexAddr 1 (t 20) (t 22)⟩, ⟨some 25, none, .load none (t 24)⟩, ⟨some 11, none, .mov (t 25)⟩]) (.draw [⟨some 26, none, .mov (t 1)⟩, ⟨some 27, none, .mov (t 9)⟩, ⟨some 28, none, .indexAddr 1 (t 26) (t 27)⟩, ⟨some 29, none, .load none (t 28)⟩, ⟨some 30, none, .mov (t 3)⟩, ⟨some 31, none, .mov (t 11)⟩, ⟨some 32, none, .call (t 30) [(t 31)]⟩] [⟨some 33, none, .call (v (Fn 64)) [(t 29), (t 32)]⟩, ⟨some 34, none, .mov (t 33)⟩, ⟨some 35, some (34, false), .mov (t 8)⟩, ⟨some 36, none, .pick (t 34) (v (.bool true)) (t 35)⟩, ⟨some 8, none, .mov (t 36)⟩]))) (.ops [⟨some 37, none, .arith .add (t 22) (v (I 1))⟩, ⟨some 22, none, .mov (t 37)⟩]))))))))) (.ops [⟨some 38, none, .arith .add (t 15) (v (I 1))⟩, ⟨some 15, none, .mov (t 38)⟩])))))))))))))⟩
def ir45 : IFunc := ⟨8, [.tmp 3], (.seq (.ops [⟨some 3, none, .mov (v (.slice none 0 0))⟩]) (.seq (.ops [⟨some 4, none, .load none (t 1)⟩, ⟨some 5, none, .mov (t 0)⟩, ⟨some 6, none, .indexAddr 1 (t 4) (t 5)⟩, ⟨some 7, none, .load none (t 6)⟩, ⟨some 3, none, .mov (t 7)⟩]) .ret))⟩
def ir46 : IFunc := ⟨40, [.tmp 4], (.seq (.ops [⟨some 4, none, .mov (v (.slice none 0 0))⟩]) (.seq (.ops [⟨some 10, none, .load none (t 1)⟩, ⟨some 11, none, .mov (t 0)⟩, ⟨some 12, none, .indexAddr 1 (t 10) (t 11)⟩, ⟨some 13, none, .load none (t 12)⟩, ⟨some 14, none, .call (v (Fn 47)) [(t 13)]⟩, ⟨some 5, none, .mov (t 14)⟩]) (.seq (.ops [⟨some 16, none, .fieldAddr 3 (t 2)⟩, ⟨some 17, none, .load none (t 16)⟩, ⟨some 18, none, .mov (t 0)⟩, ⟨some 19, none, .indexAddr 7 (t 17) (t 18)⟩, ⟨some 20, none, .load (some 7) (t 19)⟩, ⟨some 21, none, .call (v (Fn 48)) [(t 20)]⟩, ⟨some 15, none, .mov (t 21)⟩, ⟨some 22, none, .extract (t 15) 0⟩, ⟨some 23, none, .extract (t 15) 1⟩, ⟨some 6, none, .mov (t 22)⟩, ⟨some 7, none, .mov (t 23)⟩]) (.seq (.seq (.ops [⟨some 24, none, .mov (t 7)⟩, ⟨some 25, none, .arith .geq (t 24) (v (I 0))⟩]) (.cond (t 25) (.ops [⟨some 26, none, .mov (t 5)⟩, ⟨some 27, none, .mov (t 7)⟩, ⟨some 28, none, .call (v (Fn 49)) [(t 26), (t 27)]⟩]) .skip)) (.seq (.seq (.ops [⟨some 29, none, .mov (t 6)⟩, ⟨some 30, none, .lenSl (t 29)⟩, ⟨some 31, none, .mov (v (I 0))⟩]) (.block 0 (.loop (.seq (.ops [⟨some 32, none, .arith .lss (t 31) (t 30)⟩]) (.seq (.cond (t 32) .skip (.exit 0)) (.seq (.block 1 (.seq (.ops [⟨some 33, none, .indexAddr 1 (t 29) (t 31)⟩, ⟨some 34, none, .load none (t 33)⟩, ⟨some 9, none, .mov (t 34)⟩]) (.ops [⟨some 35, none, .mov (t 5)⟩, ⟨some 36, none, .mov (t 9)⟩, ⟨some 37, none, .call (v (Fn 50)) [(t 35), (t 36)]⟩]))) (.ops [⟨some 38, none, .arith .add (t 31) (v (I 1))⟩, ⟨some 31, none, .mov (t 38)⟩]))))))) (.seq (.ops [⟨some 39, none, .mov (t 5)⟩, ⟨some 4, none, .mov (t 39)⟩]) .ret))))))⟩
def ir47 : IFunc := ⟨8, [.tmp 2], (.seq (.ops [⟨some 2, none, .mov (v (.slice none 0 0))⟩]) (.seq (.seq (.ops [⟨some 3, none, .mov (t 0)⟩, ⟨some 4, none, .eqNil .slice false (t 3) (v (.slice none 0 0))⟩]) (.cond (t 4) (.seq (.ops [⟨some 2, none, .mov (v (.slice none 0 0))⟩]) .ret) .skip)) (.seq (.ops [⟨some 5, none, .buildSlice 90 0 [] []⟩, ⟨some 6, none, .mov (t 0)⟩, ⟨some 7, none, .append 90 1 8 (t 5) (t 6)⟩, ⟨some 2, none, .mov (t 7)⟩]) .ret)))⟩
def ir48 : IFunc := ⟨45, [.tmp 2, .tmp 3], (.seq (.ops [⟨some 1, none, .box 62 (t 0)⟩, ⟨some 2, none, .mov (v (.slice none 0 0))⟩, ⟨some 3, none, .mov (v (I 0))⟩]) (.seq (.ops [⟨some 9, none, .fieldAddr 0 (t 1)⟩, ⟨some 10, none, .load none (t 9)⟩, ⟨some 11, none, .call (v (Fn 65)) [(t 10)]⟩, ⟨some 8, none, .mov (t 11)⟩, ⟨some 12, none, .extract (t 8) 0⟩, ⟨some 13, none, .extract (t 8) 1⟩, ⟨some 4, none, .box 106 (v (.agg #[(S []), (I 0), (I 0), (I 0), (I 0), (S [])]))⟩, ⟨none, none, .store 6 (t 4) (t 12)⟩, ⟨some 5, none, .mov (t 13)⟩]) (.seq (.seq (.ops [⟨some 14, none, .mov (t 5)⟩, ⟨some 15, none, .un .not (t 14)⟩]) (.cond (t 15) (.seq (.ops [⟨some 2, none, .mov (v (.slice none 0 0))⟩, ⟨some 3, none, .mov (v (I (-1)))⟩]) .ret) .skip)) (.seq (.ops [⟨some 3, none, .mov (v (I (-1)))⟩]) (.seq (.seq (.ops [⟨some 16, none, .load (some 6) (t 4)⟩, ⟨some 17, none, .load (some 7) (t 1)⟩, ⟨some 18, none, .call (v (Fn 66)) [(t 16), (t 17)]⟩, ⟨some 19, none, .mov (v (I 0))⟩]) (.block 0 (.loop (.seq (.ops [⟨some 20, none, .arith .lss (t 19) (v (I 4))⟩]) (.seq (.cond (t 20) .skip (.exit 0)) (.seq (.block 1 (.seq (.ops [⟨some 21, none, .indexArr 4 2 (some 2) (t 18) (t 19)⟩, ⟨some 7, none, .box 109 (v (.agg #[(I 0), (I 0)]))⟩, ⟨none, none, .store 2 (t 7) (t 21)⟩]) (.seq (.ops [⟨some 22, none, .indexAddrArr 2 1 (t 7) (v (I 0))⟩, ⟨some 23, none, .load none (t 22)⟩]) (.block 2 (.seq (.seq (.ops [⟨some 25, none, .arith .eql (t 23) (v (I 1))⟩, ⟨some 24, none, .mov (t 25)⟩]) (.cond (t 24) .skip (.ops [⟨some 26, none, .arith .eql (t 23) (v (I 2))⟩, ⟨some 24, none, .mov (t 26)⟩]))) (.cond (t 24) (.ops [⟨some 27, none, .mov (t 2)⟩, ⟨some 28, none, .indexAddrArr 2 1 (t 7) (v (I 1))⟩, ⟨some 29, none, .load none (t 28)⟩, ⟨some 30, none, .buildSlice 3 1 [(I 0)] [(0, 1, (t 29))]⟩, ⟨some 31, none, .append 3 1 8 (t 27) (t 30)⟩, ⟨some 2, none, .mov (t 31)⟩]) (.seq (.seq (.ops [⟨some 33, none, .arith .eql (t 23) (v (I 3))⟩, ⟨some 32, none, .mov (t 33)⟩]) (.cond (t 32) .skip (.ops [⟨some 34, none, .arith .eql (t 23) (v (I 4))⟩, ⟨some 32, none, .mov (t 34)⟩]))) (.cond (t 32) (.ops [⟨some 35, none, .indexAddrArr 2 1 (t 7) (v (I 1))⟩, ⟨some 36, none, .load none (t 35)⟩, ⟨some 3, none, .mov (t 36)⟩]) .skip)))))))) (.ops [⟨some 37, none, .arith .add (t 19) (v (I 1))⟩, ⟨some 19, none, .mov (t 37)⟩]))))))) (.seq (.ops [⟨some 38, none, .mov (t 2)⟩, ⟨some 39, none, .fieldAddr 6 (t 1)⟩, ⟨some 40, none, .load none (t 39)⟩, ⟨some 41, none, .append 3 1 8 (t 38) (t 40)⟩, ⟨some 42, none, .call (v (Fn 67)) [(t 41), (v (Fn 68))]⟩, ⟨some 2, none, .mov (t 42)⟩]) (.seq (.ops [⟨some 43, none, .mov (t 2)⟩, ⟨some 44, none, .mov (t 3)⟩, ⟨some 2, none, .mov (t 43)⟩, ⟨some 3, none, .mov (t 44)⟩]) .ret)))))))⟩
def ir49 : IFunc := ⟨14, [], (.draw [⟨some 4, none, .mov (t 0)⟩, ⟨some 5, none, .mov (t 1)⟩, ⟨some 6, none, .arith .quo (t 5) (v (I 64))⟩, ⟨some 7, none, .indexAddr 1 (t 4) (t 6)⟩, ⟨some 8, none, .load none (t 7)⟩, ⟨some 9, none, .mov (t 1)⟩, ⟨some 10, none, .arith .rem (t 9) (v (I 64))⟩, ⟨some 11, none, .arith .shl (v (.int .u64 1)) (t 10)⟩] [⟨some 12, none, .arith .andNot (t 8) (t 11)⟩, ⟨some 13, none, .indexAddr 1 (t 4) (t 6)⟩, ⟨none, none, .store 1 (t 13) (t 12)⟩])⟩
def ir50 : IFunc := ⟨14, [], (.draw [⟨some 4, none, .mov (t 0)⟩, ⟨some 5, none, .mov (t 1)⟩, ⟨some 6, none, .arith .quo (t 5) (v (I 64))⟩, ⟨some 7, none, .indexAddr 1 (t 4) (t 6)⟩, ⟨some 8, none, .load none (t 7)⟩, ⟨some 9, none, .mov (t 1)⟩, ⟨some 10, none, .arith .rem (t 9) (v (I 64))⟩, ⟨some 11, none, .arith .shl (v (.int .u64 1)) (t 10)⟩] [⟨some 12, none, .arith .or (t 8) (t 11)⟩, ⟨some 13, none, .indexAddr 1 (t 4) (t 6)⟩, ⟨none, none, .store 1 (t 13) (t 12)⟩])⟩
def ir51 : IFunc := ⟨33, [.tmp 4], (.seq (.ops [⟨some 4, none, .mov (v (.slice none 0 0))⟩]) (.seq (.ops [⟨some 5, none, .mov (v (.slice none 0 0))⟩]) (.seq (.seq (.ops [⟨some 8, none, .mov (t 0)⟩, ⟨some 9, none, .lenSl (t 8)⟩, ⟨some 10, none, .mov (v (I 0))⟩]) (.block 0 (.loop (.seq (.ops [⟨some 11, none, .arith .lss (t 10) (t 9)⟩]) (.seq (.cond (t 11) .skip (.exit 0)) (.seq (.block 1 (.seq (.ops [⟨some 12, none, .mov (t 10)⟩, ⟨some 13, none, .indexAddr 1 (t 8) (t 10)⟩, ⟨some 14, none, .load none (t 13)⟩, ⟨some 6, none, .mov (t 12)⟩, ⟨some 7, none, .mov (t 14)⟩]) (.block 2 (.loop (.seq (.seq (.ops [⟨some 15, none, .mov (t 7)⟩, ⟨some 16, none, .arith .neq (t 15) (v (.int .u64 0))⟩]) (.cond (t 16) .skip (.exit 2))) (.seq (.block 3 (.ops [⟨some 21, none, .mov (t 5)⟩, ⟨some 22, none, .mov (t 6)⟩, ⟨some 23, none, .arith .mul (v (I 64)) (t 22)⟩, ⟨some 24, none, .mov (t 7)⟩, ⟨some 25, none, .call (v (Fn 69)) [(t 24)]⟩, ⟨some 26, none, .arith .add (t 23) (t 25)⟩, ⟨some 27, none, .mov (t 1)⟩, ⟨some 28, none, .arith .add (t 26) (t 27)⟩, ⟨some 29, none, .buildSlice 3 1 [(I 0)] [(0, 1, (t 28))]⟩, ⟨some 30, none, .append 3 1 8 (t 21) (t 29)⟩, ⟨some 5, none, .mov (t 30)⟩])) (.ops [⟨some 17, none, .mov (t 7)⟩, ⟨some 18, none, .mov (t 7)⟩, ⟨some 19, none, .arith .sub (t 18) (v (.int .u64 1))⟩, ⟨some 20, none, .arith .and (t 17) (t 19)⟩, ⟨some 7, none, .mov (t 20)⟩]))))))) (.ops [⟨some 31, none, .arith .add (t 10) (v (I 1))⟩, ⟨some 10, none, .mov (t 31)⟩]))))))) (.seq (.ops [⟨some 32, none, .mov (t 5)⟩, ⟨some 4, none, .mov (t 32)⟩]) .ret))))⟩
def ir52 : IFunc := ⟨20, [.tmp 4], (.seq (.ops [⟨some 2, none, .box 53 (t 0)⟩, ⟨some 4, none, .mov (v (I 0))⟩]) (.seq (.seq (.ops [⟨some 6, none, .load (some 2) (t 2)⟩, ⟨some 7, none, .call (v (Fn 70)) [(t 6)]⟩, ⟨some 5, none, .mov (t 7)⟩]) (.seq (.ops [⟨some 8, none, .mov (t 5)⟩, ⟨some 9, none, .arith .neq (t 8) (v (I 0))⟩]) (.cond (t 9) (.seq (.ops [⟨some 10, none, .mov (t 5)⟩, ⟨some 4, none, .mov (t 10)⟩]) .ret) .skip))) (.seq (.seq (.ops [⟨some 11, none, .mov (t 1)⟩, ⟨some 12, none, .arith .lss (t 11) (v (I 0))⟩, ⟨some 13, none, .mov (t 12)⟩, ⟨some 14, some (13, false), .mov (t 1)⟩, ⟨some 15, some (13, false), .fieldAddr 1 (t 2)⟩, ⟨some 16, some (13, false), .load none (t 15)⟩, ⟨some 17, some (13, false), .lenSl (t 16)⟩, ⟨some 18, some (13, false), .arith .geq (t 14) (t 17)⟩, ⟨some 19, none, .pick (t 13) (v (.bool true)) (t 18)⟩]) (.cond (t 19) (.seq (.ops [⟨some 4, none, .mov (v (I 250))⟩]) .ret) .skip)) (.seq (.ops [⟨some 4, none, .mov (v (I 0))⟩]) .ret))))⟩
def ir53 : IFunc := ⟨30, [.tmp 4], (.seq (.ops [⟨some 4, none, .mov (v (.slice none 0 0))⟩]) (.seq (.ops [⟨some 6, none, .mov (t 0)⟩, ⟨some 7, none, .mov (t 1)⟩, ⟨some 8, none, .indexAddr 7 (t 6) (t 7)⟩, ⟨some 9, none, .load (some 7) (t 8)⟩, ⟨some 5, none, .box 62 (v (.agg #[(I 0), (I 0), (I 0), (I 0), (I 0), (S []), (.slice none 0 0)]))⟩, ⟨none, none, .store 7 (t 5) (t 9)⟩]) (.seq (.seq (.ops [⟨some 10, none, .fieldAddr 0 (t 5)⟩, ⟨some 11, none, .load none (t 10)⟩]) (.block 0 (.seq (.ops [⟨some 13, none, .arith .eql (t 11) (v (I 22))⟩, ⟨some 12, none, .mov (t 13)⟩]) (.cond (t 12) (.seq (.ops [⟨some 4, none, .mov (v (.slice none 0 0))⟩]) .ret) (.seq (.ops [⟨some 15, none, .arith .eql (t 11) (v (I 19))⟩, ⟨some 14, none, .mov (t 15)⟩]) (.cond (t 14) (.seq (.ops [⟨some 16, none, .fieldAddr 3 (t 5)⟩, ⟨some 17, none, .load none (t 16)⟩, ⟨some 18, none, .buildSlice 3 1 [(I 0)] [(0, 1, (t 17))]⟩, ⟨some 4, none, .mov (t 18)⟩]) .ret) (.seq (.ops [⟨some 20, none, .arith .eql (t 11) (v (I 20))⟩, ⟨some 19, none, .mov (t 20)⟩]) (.cond (t 19) (.seq (.ops [⟨some 21, none, .mov (t 1)⟩, ⟨some 22, none, .arith .add (t 21) (v (I 1))⟩, ⟨some 23, none, .buildSlice 3 1 [(I 0)] [(0, 1, (t 22))]⟩, ⟨some 24, none, .fieldAddr 3 (t 5)⟩, ⟨some 25, none, .load none (t 24)⟩, ⟨some 26, none, .call (v (Fn 34)) [(t 23), (t 25)]⟩, ⟨some 4, none, .mov (t 26)⟩]) .ret) .skip)))))))) (.seq (.ops [⟨some 27, none, .mov (t 1)⟩, ⟨some 28, none, .arith .add (t 27) (v (I 1))⟩, ⟨some 29, none, .buildSlice 3 1 [(I 0)] [(0, 1, (t 28))]⟩, ⟨some 4, none, .mov (t 29)⟩]) .ret))))⟩
def ir54 : IFunc := ⟨47, [.tmp 4], (.seq (.ops [⟨some 2, none, .box 62 (t 0)⟩, ⟨some 4, none, .mov (v (.slice none 0 0))⟩]) (.seq (.ops [⟨some 11, none, .load (some 7) (t 2)⟩, ⟨some 12, none, .call (v (Fn 71)) [(t 11)]⟩, ⟨some 10, none, .mov (t 12)⟩, ⟨some 13, none, .extract (t 10) 0⟩, ⟨some 14, none, .extract (t 10) 1⟩, ⟨some 5, none, .mov (t 13)⟩, ⟨some 6, none, .mov (t 14)⟩]) (.seq (.ops [⟨some 15, none, .buildSlice 3 0 [] []⟩, ⟨some 7, none, .mov (t 15)⟩]) (.seq (.seq (.ops [⟨some 8, none, .mov (v (I 0))⟩]) (.block 0 (.loop (.seq (.seq (.ops [⟨some 16, none, .mov (t 8)⟩, ⟨some 17, none, .mov (t 1)⟩, ⟨some 18, none, .lenSl (t 17)⟩, ⟨some 19, none, .arith .lss (t 16) (t 18)⟩]) (.cond (t 19) .skip (.exit 0))) (.seq (.block 1 (.seq (.ops [⟨some 22, none, .mov (t 1)⟩, ⟨some 23, none, .mov (t 8)⟩, ⟨some 24, none, .indexAddr 1 (t 22) (t 23)⟩, ⟨some 25, none, .load none (t 24)⟩, ⟨some 26, none, .mov (t 6)⟩, ⟨some 27, none, .arith .neq (t 25) (t 26)⟩]) (.cond (t 27) (.ops [⟨some 28, none, .mov (t 7)⟩, ⟨some 29, none, .mov (t 1)⟩, ⟨some 30, none, .mov (t 8)⟩, ⟨some 31, none, .indexAddr 1 (t 29) (t 30)⟩, ⟨some 32, none, .load none (t 31)⟩, ⟨some 33, none, .call (v (Fn 34)) [(t 28), (t 32)]⟩, ⟨some 7, none, .mov (t 33)⟩]) .skip))) (.ops [⟨some 20, none, .mov (t 8)⟩, ⟨some 21, none, .arith .add (t 20) (v (I 1))⟩, ⟨some 8, none, .mov (t 21)⟩])))))) (.seq (.seq (.ops [⟨some 9, none, .mov (v (I 0))⟩]) (.block 2 (.loop (.seq (.seq (.ops [⟨some 34, none, .mov (t 9)⟩, ⟨some 35, none, .mov (t 5)⟩, ⟨some 36, none, .lenSl (t 35)⟩, ⟨some 37, none, .arith .lss (t 34) (t 36)⟩]) (.cond (t 37) .skip (.exit 2))) (.seq (.block 3 (.ops [⟨some 40, none, .mov (t 7)⟩, ⟨some 41, none, .mov (t 5)⟩, ⟨some 42, none, .mov (t 9)⟩, ⟨some 43, none, .indexAddr 1 (t 41) (t 42)⟩, ⟨some 44, none, .load none (t 43)⟩, ⟨some 45, none, .call (v (Fn 34)) [(t 40), (t 44)]⟩, ⟨some 7, none, .mov (t 45)⟩])) (.ops [⟨some 38, none, .mov (t 9)⟩, ⟨some 39, none, .arith .add (t 38) (v (I 1))⟩, ⟨some 9, none, .mov (t 39)⟩])))))) (.seq (.ops [⟨some 46, none, .mov (t 7)⟩, ⟨some 4, none, .mov (t 46)⟩]) .ret))))))⟩
def ir55 : IFunc := ⟨8, [.tmp 3], (.seq (.ops [⟨some 3, none, .mov (v (I 0))⟩]) (.seq (.ops [⟨some 4, none, .mov (t 0)⟩, ⟨some 5, none, .fieldAddr 1 (t 1)⟩, ⟨some 6, none, .load none (t 5)⟩, ⟨some 7, none, .arith .add (t 4) (t 6)⟩, ⟨some 3, none, .mov (t 7)⟩]) .ret))⟩
def ir56 : IFunc := ⟨8, [.tmp 3], (.seq (.ops [⟨some 3, none, .mov (v (.slice none 0 0))⟩]) (.seq (.ops [⟨some 4, none, .load none (t 1)⟩, ⟨some 5, none, .mov (t 0)⟩, ⟨some 6, none, .indexAddr 1 (t 4) (t 5)⟩, ⟨some 7, none, .load none (t 6)⟩, ⟨some 3, none, .mov (t 7)⟩]) .ret))⟩
def ir57 : IFunc := ⟨46, [.tmp 6], (.seq (.ops [⟨some 6, none, .mov (v (.slice none 0 0))⟩]) (.seq (.ops [⟨some 12, none, .load none (t 1)⟩, ⟨some 13, none, .mov (t 0)⟩, ⟨some 14, none, .indexAddr 1 (t 12) (t 13)⟩, ⟨some 15, none, .load none (t 14)⟩, ⟨some 16, none, .call (v (Fn 47)) [(t 15)]⟩, ⟨some 7, none, .mov (t 16)⟩]) (.seq (.seq (.ops [⟨some 18, none, .fieldAddr 3 (t 2)⟩, ⟨some 19, none, .load none (t 18)⟩, ⟨some 20, none, .mov (t 0)⟩, ⟨some 21, none, .indexAddr 7 (t 19) (t 20)⟩, ⟨some 22, none, .load (some 7) (t 21)⟩, ⟨some 23, none, .call (v (Fn 48)) [(t 22)]⟩, ⟨some 17, none, .mov (t 23)⟩, ⟨some 24, none, .extract (t 17) 0⟩, ⟨some 25, none, .extract (t 17) 1⟩, ⟨some 8, none, .mov (t 24)⟩, ⟨some 9, none, .mov (t 25)⟩]) (.seq (.ops [⟨some 26, none, .mov (t 9)⟩, ⟨some 27, none, .arith .geq (t 26) (v (I 0))⟩]) (.cond (t 27) (.seq (.seq (.ops [⟨some 28, none, .load none (t 3)⟩, ⟨some 29, none, .mov (t 9)⟩, ⟨some 30, none, .lookup .int (.slice none 0 0) false (t 28) (t 29)⟩, ⟨some 31, none, .lenSl (t 30)⟩, ⟨some 32, none, .mov (v (I 0))⟩]) (.block 0 (.loop (.seq (.ops [⟨some 33, none, .arith .lss (t 32) (t 31)⟩]) (.seq (.cond (t 33) .skip (.exit 0)) (.seq (.block 1 (.seq (.ops [⟨some 34, none, .indexAddr 1 (t 30) (t 32)⟩, ⟨some 35, none, .load none (t 34)⟩, ⟨some 11, none, .mov (t 35)⟩]) (.ops [⟨some 36, none, .mov (t 7)⟩, ⟨some 37, none, .mov (t 11)⟩, ⟨some 38, none, .call (v (Fn 49)) [(t 36), (t 37)]⟩]))) (.ops [⟨some 39, none, .arith .add (t 32) (v (I 1))⟩, ⟨some 32, none, .mov (t 39)⟩]))))))) (.ops [⟨some 40, none, .mov (t 7)⟩, ⟨some 41, none, .load none (t 4)⟩, ⟨some 42, none, .mov (t 0)⟩, ⟨some 43, none, .call (t 41) [(t 42)]⟩, ⟨some 44, none, .call (v (Fn 50)) [(t 40), (t 43)]⟩])) .skip))) (.seq (.ops [⟨some 45, none, .mov (t 7)⟩, ⟨some 6, none, .mov (t 45)⟩]) .ret))))⟩
def ir58 : IFunc := ⟨64, [.tmp 6], (.seq (.ops [⟨some 6, none, .mov (v (.slice none 0 0))⟩]) (.seq (.ops [⟨some 13, none, .mov (t 0)⟩, ⟨some 14, none, .mov (t 1)⟩, ⟨some 15, none, .indexAddr 7 (t 13) (t 14)⟩, ⟨some 16, none, .load (some 7) (t 15)⟩, ⟨some 17, none, .call (v (Fn 71)) [(t 16)]⟩, ⟨some 12, none, .mov (t 17)⟩, ⟨some 18, none, .extract (t 12) 0⟩, ⟨some 19, none, .extract (t 12) 1⟩, ⟨some 7, none, .mov (t 18)⟩, ⟨some 8, none, .mov (t 19)⟩]) (.seq (.seq (.ops [⟨some 20, none, .mov (t 8)⟩, ⟨some 21, none, .arith .lss (t 20) (v (I 0))⟩]) (.cond (t 21) (.seq (.ops [⟨some 22, none, .mov (t 2)⟩, ⟨some 6, none, .mov (t 22)⟩]) .ret) .skip)) (.seq (.ops [⟨some 23, none, .buildSlice 3 0 [] []⟩, ⟨some 9, none, .mov (t 23)⟩]) (.seq (.seq (.ops [⟨some 10, none, .mov (v (I 0))⟩]) (.block 0 (.loop (.seq (.seq (.ops [⟨some 24, none, .mov (t 10)⟩, ⟨some 25, none, .mov (t 2)⟩, ⟨some 26, none, .lenSl (t 25)⟩, ⟨some 27, none, .arith .lss (t 24) (t 26)⟩]) (.cond (t 27) .skip (.exit 0))) (.seq (.block 1 (.seq (.ops [⟨some 30, none, .mov (t 2)⟩, ⟨some 31, none, .mov (t 10)⟩, ⟨some 32, none, .indexAddr 1 (t 30) (t 31)⟩, ⟨some 33, none, .load none (t 32)⟩, ⟨some 34, none, .arith .sub (v (I (-1))) (t 33)⟩, ⟨some 11, none, .mov (t 34)⟩]) (.seq (.seq (.ops [⟨some 35, none, .mov (t 2)⟩, ⟨some 36, none, .mov (t 10)⟩, ⟨some 37, none, .indexAddr 1 (t 35) (t 36)⟩, ⟨some 38, none, .load none (t 37)⟩, ⟨some 39, none, .arith .geq (t 38) (v (I 0))⟩]) (.cond (t 39) (.ops [⟨some 41, none, .mov (t 0)⟩, ⟨some 42, none, .mov (t 2)⟩, ⟨some 43, none, .mov (t 10)⟩, ⟨some 44, none, .indexAddr 1 (t 42) (t 43)⟩, ⟨some 45, none, .load none (t 44)⟩, ⟨some 46, none, .indexAddr 7 (t 41) (t 45)⟩, ⟨some 47, none, .load (some 7) (t 46)⟩, ⟨some 48, none, .call (v (Fn 71)) [(t 47)]⟩, ⟨some 40, none, .mov (t 48)⟩, ⟨some 49, none, .extract (t 40) 0⟩, ⟨some 50, none, .extract (t 40) 1⟩, ⟨some 11, none, .mov (t 50)⟩]) .skip)) (.seq (.ops [⟨some 51, none, .mov (t 11)⟩, ⟨some 52, none, .mov (t 8)⟩, ⟨some 53, none, .arith .neq (t 51) (t 52)⟩]) (.cond (t 53) (.ops [⟨some 54, none, .mov (t 9)⟩, ⟨some 55, none, .mov (t 2)⟩, ⟨some 56, none, .mov (t 10)⟩, ⟨some 57, none, .indexAddr 1 (t 55) (t 56)⟩, ⟨some 58, none, .load none (t 57)⟩, ⟨some 59, none, .buildSlice 3 1 [(I 0)] [(0, 1, (t 58))]⟩, ⟨some 60, none, .append 3 1 8 (t 54) (t 59)⟩, ⟨some 9, none, .mov (t 60)⟩]) .skip))))) (.ops [⟨some 28, none, .mov (t 10)⟩, ⟨some 29, none, .arith .add (t 28) (v (I 1))⟩, ⟨some 10, none, .mov (t 29)⟩])))))) (.seq (.ops [⟨some 61, none, .mov (t 9)⟩, ⟨some 62, none, .mov (t 1)⟩, ⟨some 63, none, .call (v (Fn 34)) [(t 61), (t 62)]⟩, ⟨some 6, none, .mov (t 63)⟩]) .ret))))))⟩
def ir59 : IFunc := ⟨32, [.tmp 6], (.seq (.ops [⟨some 6, none, .mov (v (.bool false))⟩]) (.seq (.seq (.ops [⟨some 10, none, .mov (t 0)⟩, ⟨some 11, none, .lenSl (t 10)⟩, ⟨some 12, none, .mov (t 1)⟩, ⟨some 13, none, .lenSl (t 12)⟩, ⟨some 14, none, .arith .neq (t 11) (t 13)⟩]) (.cond (t 14) (.seq (.ops [⟨some 6, none, .mov (v (.bool false))⟩]) .ret) .skip)) (.seq (.seq (.ops [⟨some 15, none, .mov (t 0)⟩, ⟨some 16, none, .lenSl (t 15)⟩, ⟨some 17, none, .mov (v (I 0))⟩]) (.block 0 (.loop (.seq (.ops [⟨some 18, none, .arith .lss (t 17) (t 16)⟩]) (.seq (.cond (t 18) .skip (.exit 0)) (.seq (.block 1 (.seq (.ops [⟨some 19, none, .mov (t 17)⟩, ⟨some 20, none, .indexAddr 1 (t 15) (t 17)⟩, ⟨some 21, none, .load none (t 20)⟩, ⟨some 7, none, .mov (t 19)⟩, ⟨some 8, none, .mov (t 21)⟩]) (.seq (.ops [⟨some 22, none, .mov (t 1)⟩, ⟨some 23, none, .mov (t 7)⟩, ⟨some 24, none, .indexAddr 1 (t 22) (t 23)⟩, ⟨some 25, none, .load none (t 24)⟩, ⟨some 9, none, .mov (t 25)⟩]) (.seq (.ops [⟨some 26, none, .mov (t 2)⟩, ⟨some 27, none, .mov (t 8)⟩, ⟨some 28, none, .mov (t 9)⟩, ⟨some 29, none, .call (t 26) [(t 27), (t 28)]⟩, ⟨some 30, none, .un .not (t 29)⟩]) (.cond (t 30) (.seq (.ops [⟨some 6, none, .mov (v (.bool false))⟩]) .ret) .skip))))) (.ops [⟨some 31, none, .arith .add (t 17) (v (I 1))⟩, ⟨some 17, none, .mov (t 31)⟩]))))))) (.seq (.ops [⟨some 6, none, .mov (v (.bool true))⟩]) .ret))))⟩
def ir60 : IFunc := ⟨150, [.tmp 2], (.seq (.ops [⟨some 2, none, .mov (v (.slice none 0 0))⟩]) (.seq (.ops [⟨some 15, none, .mov (t 0)⟩, ⟨some 16, none, .lenSl (t 15)⟩, ⟨some 17, none, .arith .add (t 16) (v (I 1))⟩, ⟨some 18, none, .makeSlice 4 1 [(.bool false)] (t 17) (t 17)⟩, ⟨some 3, none, .mov (t 18)⟩]) (.seq (.ops [⟨some 19, none, .mov (t 3)⟩, ⟨some 20, none, .indexAddr 1 (t 19) (v (I 0))⟩, ⟨none, none, .store 1 (t 20) (v (.bool true))⟩]) (.seq (.seq (.ops [⟨some 21, none, .mov (t 0)⟩, ⟨some 22, none, .lenSl (t 21)⟩, ⟨some 23, none, .mov (v (I 0))⟩]) (.block 0 (.loop (.seq (.ops [⟨some 24, none, .arith .lss (t 23) (t 22)⟩]) (.seq (.cond (t 24) .skip (.exit 0)) (.seq (.block 1 (.seq (.ops [⟨some 25, none, .mov (t 23)⟩, ⟨some 26, none, .indexAddr 7 (t 21) (t 23)⟩, ⟨some 27, none, .load (some 7) (t 26)⟩, ⟨some 5, none, .box 62 (v (.agg #[(I 0), (I 0), (I 0), (I 0), (I 0), (S []), (.slice none 0 0)]))⟩, ⟨some 4, none, .mov (t 25)⟩, ⟨none, none, .store 7 (t 5) (t 27)⟩]) (.seq (.ops [⟨some 29, none, .load (some 7) (t 5)⟩, ⟨some 30, none, .call (v (Fn 72)) [(t 29)]⟩, ⟨some 28, none, .mov (t 30)⟩, ⟨some 31, none, .extract (t 28) 0⟩, ⟨some 32, none, .extract (t 28) 1⟩, ⟨some 6, none, .mov (t 31)⟩, ⟨some 7, none, .mov (t 32)⟩]) (.seq (.seq (.ops [⟨some 33, none, .mov (t 7)⟩]) (.cond (t 33) (.ops [⟨some 34, none, .mov (t 3)⟩, ⟨some 35, none, .fieldAddr 3 (t 5)⟩, ⟨some 36, none, .load none (t 35)⟩, ⟨some 37, none, .indexAddr 1 (t 34) (t 36)⟩, ⟨none, none, .store 1 (t 37) (v (.bool true))⟩]) .skip)) (.ops [⟨some 38, none, .mov (t 3)⟩, ⟨some 39, none, .mov (t 4)⟩, ⟨some 40, none, .arith .add (t 39) (v (I 1))⟩, ⟨some 41, none, .mov (t 3)⟩, ⟨some 42, none, .mov (t 4)⟩, ⟨some 43, none, .arith .add (t 42) (v (I 1))⟩, ⟨some 44, none, .indexAddr 1 (t 41) (t 43)⟩, ⟨some 45, none, .load none (t 44)⟩, ⟨some 46, none, .mov (t 45)⟩, ⟨some 47, some (46, false), .mov (t 6)⟩, ⟨some 48, none, .pick (t 46) (v (.bool true)) (t 47)⟩, ⟨some 49, none, .indexAddr 1 (t 38) (t 40)⟩, ⟨none, none, .store 1 (t 49) (t 48)⟩]))))) (.ops [⟨some 50, none, .arith .add (t 23) (v (I 1))⟩, ⟨some 23, none, .mov (t 50)⟩]))))))) (.seq (.ops [⟨some 51, none, .mov (t 0)⟩, ⟨some 52, none, .lenSl (t 51)⟩, ⟨some 53, none, .arith .add (t 52) (v (I 1))⟩, ⟨some 54, none, .makeSlice 3 8 [(I 0)] (t 53) (t 53)⟩, ⟨some 8, none, .mov (t 54)⟩]) (.seq (.ops [⟨some 9, none, .mov (v (.slice none 0 0))⟩]) (.seq (.seq (.ops [⟨some 55, none, .mov (t 0)⟩, ⟨some 56, none, .lenSl (t 55)⟩, ⟨some 57, none, .mov (v (I 0))⟩]) (.block 2 (.loop (.seq (.ops [⟨some 58, none, .arith .lss (t 57) (t 56)⟩]) (.seq (.cond (t 58) .skip (.exit 2)) (.seq (.block 3 (.seq (.ops [⟨some 59, none, .mov (t 57)⟩, ⟨some 10, none, .mov (t 59)⟩]) (.seq (.seq (.ops [⟨some 60, none, .mov (t 3)⟩, ⟨some 61, none, .mov (t 10)⟩, ⟨some 62, none, .indexAddr 1 (t 60) (t 61)⟩, ⟨some 63, none, .load none (t 62)⟩]) (.cond (t 63) (.ops [⟨some 64, none, .mov (t 9)⟩, ⟨some 65, none, .mov (t 10)⟩, ⟨some 66, none, .build [(I 0), (I 0), (.slice none 0 0)] [(0, 1, (t 65))]⟩, ⟨some 67, none, .buildSlice 30 1 [(I 0), (I 0), (.slice none 0 0)] [(0, 3, (t 66))]⟩, ⟨some 68, none, .append 30 3 40 (t 64) (t 67)⟩, ⟨some 9, none, .mov (t 68)⟩]) .skip)) (.seq (.ops [⟨some 69, none, .mov (t 8)⟩, ⟨some 70, none, .mov (t 10)⟩, ⟨some 71, none, .mov (t 9)⟩, ⟨some 72, none, .lenSl (t 71)⟩, ⟨some 73, none, .arith .sub (t 72) (v (I 1))⟩, ⟨some 74, none, .indexAddr 1 (t 69) (t 70)⟩, ⟨none, none, .store 1 (t 74) (t 73)⟩]) (.ops [⟨some 75, none, .mov (t 9)⟩, ⟨some 76, none, .mov (t 9)⟩, ⟨some 77, none, .lenSl (t 76)⟩, ⟨some 78, none, .arith .sub (t 77) (v (I 1))⟩, ⟨some 79, none, .mov (t 10)⟩, ⟨some 80, none, .arith .add (t 79) (v (I 1))⟩, ⟨some 81, none, .indexAddr 3 (t 75) (t 78)⟩, ⟨some 82, none, .fieldAddr 1 (t 81)⟩, ⟨none, none, .store 1 (t 82) (t 80)⟩]))))) (.ops [⟨some 83, none, .arith .add (t 57) (v (I 1))⟩, ⟨some 57, none, .mov (t 83)⟩]))))))) (.seq (.seq (.ops [⟨some 84, none, .mov (t 9)⟩, ⟨some 85, none, .lenSl (t 84)⟩, ⟨some 86, none, .mov (v (I 0))⟩]) (.block 4 (.loop (.seq (.ops [⟨some 87, none, .arith .lss (t 86) (t 85)⟩]) (.seq (.cond (t 87) .skip (.exit 4)) (.seq (.block 5 (.seq (.ops [⟨some 88, none, .mov (t 86)⟩, ⟨some 11, none, .mov (t 88)⟩]) (.seq (.ops [⟨some 89, none, .mov (t 9)⟩, ⟨some 90, none, .mov (t 11)⟩, ⟨some 91, none, .indexAddr 3 (t 89) (t 90)⟩, ⟨some 12, none, .mov (t 91)⟩]) (.seq (.ops [⟨some 92, none, .mov (t 0)⟩, ⟨some 93, none, .mov (t 12)⟩, ⟨some 94, none, .nilCheck (t 93)⟩, ⟨some 95, none, .fieldAddr 1 (t 94)⟩, ⟨some 96, none, .load none (t 95)⟩, ⟨some 97, none, .arith .sub (t 96) (v (I 1))⟩, ⟨some 98, none, .indexAddr 7 (t 92) (t 97)⟩, ⟨some 99, none, .load (some 7) (t 98)⟩, ⟨some 13, none, .box 62 (v (.agg #[(I 0), (I 0), (I 0), (I 0), (I 0), (S []), (.slice none 0 0)]))⟩, ⟨none, none, .store 7 (t 13) (t 99)⟩]) (.seq (.ops [⟨some 100, none, .fieldAddr 0 (t 13)⟩, ⟨some 101, none, .load none (t 100)⟩]) (.block 6 (.seq (.ops [⟨some 109, none, .arith .eql (t 101) (v (I 22))⟩, ⟨some 108, none, .mov (t 109)⟩]) (.cond (t 108) .skip (.seq (.ops [⟨some 111, none, .arith .eql (t 101) (v (I 19))⟩, ⟨some 110, none, .mov (t 111)⟩]) (.cond (t 110) (.ops [⟨some 112, none, .mov (t 12)⟩, ⟨some 113, none, .mov (t 8)⟩, ⟨some 114, none, .fieldAddr 3 (t 13)⟩, ⟨some 115, none, .load none (t 114)⟩, ⟨some 116, none, .indexAddr 1 (t 113) (t 115)⟩, ⟨some 117, none, .load none (t 116)⟩, ⟨some 118, none, .buildSlice 3 1 [(I 0)] [(0, 1, (t 117))]⟩, ⟨some 119, none, .nilCheck (t 112)⟩, ⟨some 120, none, .fieldAddr 2 (t 119)⟩, ⟨none, none, .store 1 (t 120) (t 118)⟩]) (.seq (.ops [⟨some 122, none, .arith .eql (t 101) (v (I 20))⟩, ⟨some 121, none, .mov (t 122)⟩]) (.cond (t 121) (.seq (.ops [⟨some 123, none, .mov (t 12)⟩, ⟨some 124, none, .mov (t 11)⟩, ⟨some 125, none, .arith .add (t 124) (v (I 1))⟩, ⟨some 126, none, .buildSlice 3 1 [(I 0)] [(0, 1, (t 125))]⟩, ⟨some 127, none, .nilCheck (t 123)⟩, ⟨some 128, none, .fieldAddr 2 (t 127)⟩, ⟨none, none, .store 1 (t 128) (t 126)⟩]) (.seq (.ops [⟨some 129, none, .mov (t 8)⟩, ⟨some 130, none, .fieldAddr 3 (t 13)⟩, ⟨some 131, none, .load none (t 130)⟩, ⟨some 132, none, .indexAddr 1 (t 129) (t 131)⟩, ⟨some 133, none, .load none (t 132)⟩, ⟨some 14, none, .mov (t 133)⟩]) (.seq (.ops [⟨some 134, none, .mov (t 14)⟩, ⟨some 135, none, .mov (t 11)⟩, ⟨some 136, none, .arith .add (t 135) (v (I 1))⟩, ⟨some 137, none, .arith .neq (t 134) (t 136)⟩]) (.cond (t 137) (.ops [⟨some 138, none, .mov (t 12)⟩, ⟨some 139, none, .mov (t 12)⟩, ⟨some 140, none, .nilCheck (t 139)⟩, ⟨some 141, none, .fieldAddr 2 (t 140)⟩, ⟨some 142, none, .load none (t 141)⟩, ⟨some 143, none, .mov (t 14)⟩, ⟨some 144, none, .buildSlice 3 1 [(I 0)] [(0, 1, (t 143))]⟩, ⟨some 145, none, .append 3 1 8 (t 142) (t 144)⟩, ⟨some 146, none, .nilCheck (t 138)⟩, ⟨some 147, none, .fieldAddr 2 (t 146)⟩, ⟨none, none, .store 1 (t 147) (t 145)⟩]) .skip)))) (.ops [⟨some 102, none, .mov (t 12)⟩, ⟨some 103, none, .mov (t 11)⟩, ⟨some 104, none, .arith .add (t 103) (v (I 1))⟩, ⟨some 105, none, .buildSlice 3 1 [(I 0)] [(0, 1, (t 104))]⟩, ⟨some 106, none, .nilCheck (t 102)⟩, ⟨some 107, none, .fieldAddr 2 (t 106)⟩, ⟨none, none, .store 1 (t 107) (t 105)⟩]))))))))))))) (.ops [⟨some 148, none, .arith .add (t 86) (v (I 1))⟩, ⟨some 86, none, .mov (t 148)⟩]))))))) (.seq (.ops [⟨some 149, none, .mov (t 9)⟩, ⟨some 2, none, .mov (t 149)⟩]) .ret)))))))))⟩
def ir61 : IFunc := ⟨31, [], (.seq (.ops [⟨some 6, none, .load none (t 1)⟩, ⟨some 7, none, .load none (t 2)⟩, ⟨some 8, none, .indexAddr 3 (t 6) (t 7)⟩, ⟨some 9, none, .fieldAddr 2 (t 8)⟩, ⟨some 10, none, .load none (t 9)⟩, ⟨some 11, none, .lenSl (t 10)⟩, ⟨some 12, none, .mov (v (I 0))⟩]) (.block 0 (.loop (.seq (.ops [⟨some 13, none, .arith .lss (t 12) (t 11)⟩]) (.seq (.cond (t 13) .skip (.exit 0)) (.seq (.block 1 (.seq (.ops [⟨some 14, none, .indexAddr 1 (t 10) (t 12)⟩, ⟨some 15, none, .load none (t 14)⟩, ⟨some 5, none, .mov (t 15)⟩]) (.seq (.ops [⟨some 16, none, .mov (t 5)⟩, ⟨some 17, none, .arith .geq (t 16) (v (I 0))⟩, ⟨some 18, none, .mov (t 17)⟩, ⟨some 19, some (18, true), .mov (t 5)⟩, ⟨some 20, some (18, true), .load none (t 1)⟩, ⟨some 21, some (18, true), .lenSl (t 20)⟩, ⟨some 22, some (18, true), .arith .lss (t 19) (t 21)⟩, ⟨some 23, none, .pick (t 18) (t 22) (v (.bool false))⟩, ⟨some 24, none, .mov (t 23)⟩, ⟨some 25, some (24, true), .mov (t 0)⟩, ⟨some 26, some (24, true), .mov (t 5)⟩, ⟨some 27, some (24, true), .call (t 25) [(t 26)]⟩, ⟨some 28, some (24, true), .un .not (t 27)⟩, ⟨some 29, none, .pick (t 24) (t 28) (v (.bool false))⟩]) (.cond (t 29) .ret .skip)))) (.ops [⟨some 30, none, .arith .add (t 12) (v (I 1))⟩, ⟨some 12, none, .mov (t 30)⟩])))))))⟩
def ir63 : IFunc := ⟨110, [.tmp 2], (.seq (.ops [⟨some 1, none, .box 53 (t 0)⟩, ⟨some 2, none, .mov (v (I 0))⟩]) (.seq (.ops [⟨some 3, none, .mov (v (I 0))⟩]) (.seq (.seq (.ops [⟨some 9, none, .fieldAddr 1 (t 1)⟩, ⟨some 10, none, .load none (t 9)⟩, ⟨some 11, none, .lenSl (t 10)⟩, ⟨some 12, none, .mov (v (I 0))⟩]) (.block 0 (.loop (.seq (.ops [⟨some 13, none, .arith .lss (t 12) (t 11)⟩]) (.seq (.cond (t 13) .skip (.exit 0)) (.seq (.block 1 (.seq (.ops [⟨some 14, none, .indexAddr 4 (t 10) (t 12)⟩, ⟨some 15, none, .load (some 4) (t 14)⟩, ⟨some 5, none, .box 65 (v (.agg #[(S []), (I 0), (I 0), (.slice none 0 0)]))⟩, ⟨none, none, .store 4 (t 5) (t 15)⟩]) (.ops [⟨some 16, none, .mov (t 3)⟩, ⟨some 17, none, .fieldAddr 3 (t 5)⟩, ⟨some 18, none, .load none (t 17)⟩, ⟨some 19, none, .lenSl (t 18)⟩, ⟨some 20, none, .arith .add (t 16) (t 19)⟩, ⟨some 3, none, .mov (t 20)⟩]))) (.ops [⟨some 21, none, .arith .add (t 12) (v (I 1))⟩, ⟨some 12, none, .mov (t 21)⟩]))))))) (.seq (.block 2 (.seq (.ops [⟨some 23, none, .fieldAddr 1 (t 1)⟩, ⟨some 24, none, .load none (t 23)⟩, ⟨some 25, none, .lenSl (t 24)⟩, ⟨some 26, none, .arith .eql (t 25) (v (I 0))⟩, ⟨some 27, none, .mov (t 26)⟩, ⟨some 28, some (27, false), .fieldAddr 1 (t 1)⟩, ⟨some 29, some (27, false), .load none (t 28)⟩, ⟨some 30, some (27, false), .lenSl (t 29)⟩, ⟨some 31, some (27, false), .arith .gtr (t 30) (v (I 800))⟩, ⟨some 32, none, .pick (t 27) (v (.bool true)) (t 31)⟩, ⟨some 33, none, .mov (t 32)⟩, ⟨some 34, some (33, false), .mov (t 3)⟩, ⟨some 35, some (33, false), .arith .gtr (t 34) (v (I 20000))⟩, ⟨some 36, none, .pick (t 33) (v (.bool true)) (t 35)⟩, ⟨some 37, none, .mov (t 36)⟩, ⟨some 38, some (37, false), .fieldAddr 0 (t 1)⟩, ⟨some 39, some (37, false), .load none (t 38)⟩, ⟨some 40, some (37, false), .arith .lss (t 39) (v (I 0))⟩, ⟨some 41, none, .pick (t 37) (v (.bool true)) (t 40)⟩, ⟨some 42, none, .mov (t 41)⟩, ⟨some 43, some (42, false), .fieldAddr 0 (t 1)⟩, ⟨some 44, some (42, false), .load none (t 43)⟩, ⟨some 45, some (42, false), .arith .gtr (t 44) (v (I 1000))⟩, ⟨some 46, none, .pick (t 42) (v (.bool true)) (t 45)⟩, ⟨some 22, none, .mov (t 46)⟩]) (.cond (t 22) (.seq (.ops [⟨some 2, none, .mov (v (I 5))⟩]) .ret) (.seq (.ops [⟨some 48, none, .fieldAddr 1 (t 1)⟩, ⟨some 49, none, .load none (t 48)⟩, ⟨some 50, none, .call (v (Fn 73)) [(t 49), (v (Fn 74))]⟩, ⟨some 47, none, .mov (t 50)⟩]) (.cond (t 47) (.seq (.ops [⟨some 2, none, .mov (v (I 5))⟩]) .ret) .skip))))) (.seq (.seq (.ops [⟨some 51, none, .fieldAddr 1 (t 1)⟩, ⟨some 52, none, .load none (t 51)⟩, ⟨some 53, none, .lenSl (t 52)⟩, ⟨some 54, none, .mov (v (I 0))⟩]) (.block 3 (.loop (.seq (.ops [⟨some 55, none, .arith .lss (t 54) (t 53)⟩]) (.seq (.cond (t 55) .skip (.exit 3)) (.seq (.block 4 (.seq (.ops [⟨some 56, none, .mov (t 54)⟩, ⟨some 57, none, .indexAddr 4 (t 52) (t 54)⟩, ⟨some 58, none, .load (some 4) (t 57)⟩, ⟨some 7, none, .box 65 (v (.agg #[(S []), (I 0), (I 0), (.slice none 0 0)]))⟩, ⟨some 6, none, .mov (t 56)⟩, ⟨none, none, .store 4 (t 7) (t 58)⟩]) (.seq (.seq (.ops [⟨some 59, none, .fieldAddr 0 (t 7)⟩, ⟨some 60, none, .load none (t 59)⟩, ⟨some 61, none, .call (v (Fn 75)) [(t 60)]⟩, ⟨some 62, none, .un .not (t 61)⟩, ⟨some 63, none, .mov (t 62)⟩, ⟨some 64, some (63, false), .fieldAddr 2 (t 7)⟩, ⟨some 65, some (63, false), .load none (t 64)⟩, ⟨some 66, some (63, false), .arith .lss (t 65) (v (I 0))⟩, ⟨some 67, none, .pick (t 63) (v (.bool true)) (t 66)⟩, ⟨some 68, none, .mov (t 67)⟩, ⟨some 69, some (68, false), .fieldAddr 2 (t 7)⟩, ⟨some 70, some (68, false), .load none (t 69)⟩, ⟨some 71, some (68, false), .fieldAddr 1 (t 7)⟩, ⟨some 72, some (68, false), .load none (t 71)⟩, ⟨some 73, some (68, false), .arith .gtr (t 70) (t 72)⟩, ⟨some 74, none, .pick (t 68) (v (.bool true)) (t 73)⟩, ⟨some 75, none, .mov (t 74)⟩, ⟨some 76, some (75, false), .mov (t 6)⟩, ⟨some 77, some (75, false), .arith .eql (t 76) (v (I 0))⟩, ⟨some 78, some (75, false), .mov (t 77)⟩, ⟨some 79, some (78, true), .fieldAddr 2 (t 7)⟩, ⟨some 80, some (78, true), .load none (t 79)⟩, ⟨some 81, some (78, true), .arith .gtr (t 80) (v (I 0))⟩, ⟨some 82, some (75, false), .pick (t 78) (t 81) (v (.bool false))⟩, ⟨some 83, none, .pick (t 75) (v (.bool true)) (t 82)⟩, ⟨some 84, none, .mov (t 83)⟩, ⟨some 85, some (84, false), .fieldAddr 3 (t 7)⟩, ⟨some 86, some (84, false), .load none (t 85)⟩, ⟨some 87, some (84, false), .lenSl (t 86)⟩, ⟨some 88, some (84, false), .arith .eql (t 87) (v (I 0))⟩, ⟨some 89, none, .pick (t 84) (v (.bool true)) (t 88)⟩]) (.cond (t 89) (.seq (.ops [⟨some 2, none, .mov (v (I 190))⟩]) .ret) .skip)) (.seq (.seq (.ops [⟨some 90, none, .fieldAddr 3 (t 7)⟩, ⟨some 91, none, .load none (t 90)⟩, ⟨some 92, none, .fieldAddr 3 (t 7)⟩, ⟨some 93, none, .load none (t 92)⟩, ⟨some 94, none, .lenSl (t 93)⟩, ⟨some 95, none, .arith .sub (t 94) (v (I 1))⟩, ⟨some 96, none, .indexAddr 7 (t 91) (t 95)⟩, ⟨some 97, none, .fieldAddr 0 (t 96)⟩, ⟨some 98, none, .load none (t 97)⟩, ⟨some 8, none, .mov (t 98)⟩]) (.seq (.ops [⟨some 99, none, .mov (t 8)⟩, ⟨some 100, none, .arith .neq (t 99) (v (I 22))⟩, ⟨some 101, none, .mov (t 100)⟩, ⟨some 102, some (101, true), .mov (t 8)⟩, ⟨some 103, some (101, true), .arith .neq (t 102) (v (I 19))⟩, ⟨some 104, none, .pick (t 101) (t 103) (v (.bool false))⟩]) (.cond (t 104) (.seq (.ops [⟨some 2, none, .mov (v (I 190))⟩]) .ret) .skip))) (.seq (.ops [⟨some 105, none, .fieldAddr 3 (t 7)⟩, ⟨some 106, none, .load none (t 105)⟩, ⟨some 107, none, .func 77 [] [(t 1), (t 7)]⟩, ⟨some 108, none, .call (v (Fn 76)) [(t 106), (t 107)]⟩]) (.cond (t 108) (.seq (.ops [⟨some 2, none, .mov (v (I 190))⟩]) .ret) .skip)))))) (.ops [⟨some 109, none, .arith .add (t 54) (v (I 1))⟩, ⟨some 54, none, .mov (t 109)⟩]))))))) (.seq (.ops [⟨some 2, none, .mov (v (I 0))⟩]) .ret))))))⟩
def ir64 : IFunc := ⟨35, [.tmp 4], (.seq (.ops [⟨some 4, none, .mov (v (.bool false))⟩]) (.seq (.ops [⟨some 5, none, .mov (v (.bool false))⟩]) (.seq (.seq (.ops [⟨some 8, none, .mov (t 1)⟩, ⟨some 9, none, .lenSl (t 8)⟩, ⟨some 10, none, .mov (v (I 0))⟩]) (.block 0 (.loop (.seq (.ops [⟨some 11, none, .arith .lss (t 10) (t 9)⟩]) (.seq (.cond (t 11) .skip (.exit 0)) (.seq (.block 1 (.seq (.ops [⟨some 12, none, .mov (t 10)⟩, ⟨some 13, none, .indexAddr 1 (t 8) (t 10)⟩, ⟨some 14, none, .load none (t 13)⟩, ⟨some 6, none, .mov (t 12)⟩, ⟨some 7, none, .mov (t 14)⟩]) (.seq (.draw [⟨some 15, none, .mov (t 0)⟩, ⟨some 16, none, .mov (t 6)⟩, ⟨some 17, none, .indexAddr 1 (t 15) (t 16)⟩, ⟨some 18, none, .load none (t 17)⟩, ⟨some 19, none, .mov (t 7)⟩, ⟨some 20, none, .arith .or (t 18) (t 19)⟩, ⟨some 21, none, .mov (t 0)⟩, ⟨some 22, none, .mov (t 6)⟩, ⟨some 23, none, .indexAddr 1 (t 21) (t 22)⟩, ⟨some 24, none, .load none (t 23)⟩] [⟨some 25, none, .arith .neq (t 20) (t 24)⟩]) (.cond (t 25) (.seq (.ops [⟨some 26, none, .mov (t 0)⟩, ⟨some 27, none, .mov (t 6)⟩, ⟨some 28, none, .indexAddr 1 (t 26) (t 27)⟩, ⟨some 29, none, .load none (t 28)⟩, ⟨some 30, none, .mov (t 7)⟩, ⟨some 31, none, .arith .or (t 29) (t 30)⟩, ⟨some 32, none, .indexAddr 1 (t 26) (t 27)⟩, ⟨none, none, .store 1 (t 32) (t 31)⟩]) (.ops [⟨some 5, none, .mov (v (.bool true))⟩])) .skip)))) (.ops [⟨some 33, none, .arith .add (t 10) (v (I 1))⟩, ⟨some 10, none, .mov (t 33)⟩]))))))) (.seq (.ops [⟨some 34, none, .mov (t 5)⟩, ⟨some 4, none, .mov (t 34)⟩]) .ret))))⟩
def ir65 : IFunc := ⟨14, [.cell 2 (some 6), .tmp 3], (.seq (.ops [⟨some 2, none, .box 106 (v (.agg #[(S []), (I 0), (I 0), (I 0), (I 0), (S [])]))⟩, ⟨some 3, none, .mov (v (.bool false))⟩]) (.seq (.seq (.ops [⟨some 4, none, .mov (t 0)⟩, ⟨some 5, none, .arith .lss (t 4) (v (I 1))⟩, ⟨some 6, none, .mov (t 5)⟩, ⟨some 7, some (6, false), .mov (t 0)⟩, ⟨some 8, some (6, false), .arith .gtr (t 7) (v (I 37))⟩, ⟨some 9, none, .pick (t 6) (v (.bool true)) (t 8)⟩]) (.cond (t 9) (.seq (.ops [⟨some 10, none, .build [(S []), (I 0), (I 0), (I 0), (I 0), (S [])] []⟩, ⟨none, none, .store 6 (t 2) (t 10)⟩, ⟨some 3, none, .mov (v (.bool false))⟩]) .ret) .skip)) (.seq (.ops [⟨some 11, none, .call (v (Fn 79)) []⟩, ⟨some 12, none, .mov (t 0)⟩, ⟨some 13, none, .indexArr 38 6 (some 6) (t 11) (t 12)⟩, ⟨none, none, .store 6 (t 2) (t 13)⟩, ⟨some 3, none, .mov (v (.bool true))⟩]) .ret)))⟩
def ir66 : IFunc := ⟨26, [.cell 4 (some 8)], (.seq (.ops [⟨some 2, none, .box 106 (t 0)⟩, ⟨some 3, none, .box 62 (t 1)⟩, ⟨some 4, none, .box 110 (v (.agg #[(I 0), (I 0), (I 0), (I 0), (I 0), (I 0), (I 0), (I 0)]))⟩]) (.seq (.ops [⟨some 5, none, .fieldAddr 1 (t 2)⟩, ⟨some 6, none, .load none (t 5)⟩, ⟨some 7, none, .fieldAddr 1 (t 3)⟩, ⟨some 8, none, .load none (t 7)⟩, ⟨some 9, none, .build [(I 0), (I 0)] [(0, 1, (t 6)), (1, 1, (t 8))]⟩, ⟨some 10, none, .fieldAddr 2 (t 2)⟩, ⟨some 11, none, .load none (t 10)⟩, ⟨some 12, none, .fieldAddr 2 (t 3)⟩, ⟨some 13, none, .load none (t 12)⟩, ⟨some 14, none, .build [(I 0), (I 0)] [(0, 1, (t 11)), (1, 1, (t 13))]⟩, ⟨some 15, none, .fieldAddr 3 (t 2)⟩, ⟨some 16, none, .load none (t 15)⟩, ⟨some 17, none, .fieldAddr 3 (t 3)⟩, ⟨some 18, none, .load none (t 17)⟩, ⟨some 19, none, .build [(I 0), (I 0)] [(0, 1, (t 16)), (1, 1, (t 18))]⟩, ⟨some 20, none, .fieldAddr 4 (t 2)⟩, ⟨some 21, none, .load none (t 20)⟩, ⟨some 22, none, .fieldAddr 4 (t 3)⟩, ⟨some 23, none, .load none (t 22)⟩, ⟨some 24, none, .build [(I 0), (I 0)] [(0, 1, (t 21)), (1, 1, (t 23))]⟩, ⟨some 25, none, .build [(I 0), (I 0), (I 0), (I 0), (I 0), (I 0), (I 0), (I 0)] [(0, 2, (t 9)), (2, 2, (t 14)), (4, 2, (t 19)), (6, 2, (t 24))]⟩, ⟨none, none, .store 8 (t 4) (t 25)⟩]) .ret))⟩
def ir67 : IFunc := ⟨42, [.tmp 4], (.seq (.ops [⟨some 4, none, .mov (v (.slice none 0 0))⟩]) (.seq (.ops [⟨some 8, none, .mov (t 0)⟩, ⟨some 9, none, .mov (t 1)⟩, ⟨some 10, none, .call (v (Fn 80)) [(t 8), (t 9)]⟩, ⟨some 5, none, .mov (t 10)⟩]) (.seq (.seq (.ops [⟨some 11, none, .mov (t 5)⟩, ⟨some 12, none, .arith .eql (t 11) (v (I (-1)))⟩]) (.cond (t 12) (.seq (.ops [⟨some 13, none, .mov (t 0)⟩, ⟨some 4, none, .mov (t 13)⟩]) .ret) .skip)) (.seq (.seq (.ops [⟨some 14, none, .mov (t 5)⟩, ⟨some 15, none, .arith .add (t 14) (v (I 1))⟩, ⟨some 6, none, .mov (t 15)⟩]) (.block 0 (.loop (.seq (.seq (.ops [⟨some 16, none, .mov (t 6)⟩, ⟨some 17, none, .mov (t 0)⟩, ⟨some 18, none, .lenSl (t 17)⟩, ⟨some 19, none, .arith .lss (t 16) (t 18)⟩]) (.cond (t 19) .skip (.exit 0))) (.seq (.block 1 (.seq (.ops [⟨some 22, none, .mov (t 0)⟩, ⟨some 23, none, .mov (t 6)⟩, ⟨some 24, none, .indexAddr 1 (t 22) (t 23)⟩, ⟨some 25, none, .load none (t 24)⟩, ⟨some 7, none, .mov (t 25)⟩]) (.seq (.ops [⟨some 26, none, .mov (t 1)⟩, ⟨some 27, none, .mov (t 7)⟩, ⟨some 28, none, .call (t 26) [(t 27)]⟩, ⟨some 29, none, .un .not (t 28)⟩]) (.cond (t 29) (.seq (.ops [⟨some 30, none, .mov (t 0)⟩, ⟨some 31, none, .mov (t 5)⟩, ⟨some 32, none, .mov (t 7)⟩, ⟨some 33, none, .indexAddr 1 (t 30) (t 31)⟩, ⟨none, none, .store 1 (t 33) (t 32)⟩]) (.ops [⟨some 34, none, .mov (t 5)⟩, ⟨some 35, none, .arith .add (t 34) (v (I 1))⟩, ⟨some 5, none, .mov (t 35)⟩])) .skip)))) (.ops [⟨some 20, none, .mov (t 6)⟩, ⟨some 21, none, .arith .add (t 20) (v (I 1))⟩, ⟨some 6, none, .mov (t 21)⟩])))))) (.seq (.ops [⟨some 36, none, .mov (t 0)⟩, ⟨some 37, none, .mov (t 5)⟩, ⟨some 38, none, .slice 3 1 (t 36) (some (t 37)) none none⟩, ⟨none, none, .clear [(I 0)] (t 38)⟩]) (.seq (.ops [⟨some 39, none, .mov (t 0)⟩, ⟨some 40, none, .mov (t 5)⟩, ⟨some 41, none, .slice 3 1 (t 39) none (some (t 40)) none⟩, ⟨some 4, none, .mov (t 41)⟩]) .ret))))))⟩
def ir68 : IFunc := ⟨5, [.tmp 2], (.seq (.ops [⟨some 2, none, .mov (v (.bool false))⟩]) (.seq (.ops [⟨some 3, none, .mov (t 0)⟩, ⟨some 4, none, .arith .eql (t 3) (v (I (-1)))⟩, ⟨some 2, none, .mov (t 4)⟩]) .ret))⟩
def ir69 : IFunc := ⟨14, [.tmp 2], (.seq (.ops [⟨some 2, none, .mov (v (I 0))⟩]) (.seq (.seq (.ops [⟨some 3, none, .mov (t 0)⟩, ⟨some 4, none, .arith .eql (t 3) (v (.int .u64 0))⟩]) (.cond (t 4) (.seq (.ops [⟨some 2, none, .mov (v (I 64))⟩]) .ret) .skip)) (.seq (.ops [⟨some 5, none, .mov (t 0)⟩, ⟨some 6, none, .mov (t 0)⟩, ⟨some 7, none, .un .neg (t 6)⟩, ⟨some 8, none, .arith .and (t 5) (t 7)⟩, ⟨some 9, none, .arith .mul (t 8) (v (.int .u64 285870213051353865))⟩, ⟨some 10, none, .arith .shr (t 9) (v (.int .u64 58))⟩, ⟨some 11, none, .indexAddrArr 64 1 (v (.pointer (some ⟨0, 0, none⟩))) (t 10)⟩, ⟨some 12, none, .load none (t 11)⟩, ⟨some 13, none, .toInt .i64 (t 12)⟩, ⟨some 2, none, .mov (t 13)⟩]) .ret)))⟩
def ir70 : IFunc := ⟨128, [.tmp 2], (.seq (.ops [⟨some 1, none, .box 53 (t 0)⟩, ⟨some 2, none, .mov (v (I 0))⟩]) (.seq (.seq (.ops [⟨some 9, none, .fieldAddr 1 (t 1)⟩, ⟨some 10, none, .load none (t 9)⟩, ⟨some 11, none, .lenSl (t 10)⟩, ⟨some 12, none, .arith .eql (t 11) (v (I 0))⟩, ⟨some 13, none, .mov (t 12)⟩, ⟨some 14, some (13, false), .fieldAddr 1 (t 1)⟩, ⟨some 15, some (13, false), .load none (t 14)⟩, ⟨some 16, some (13, false), .lenSl (t 15)⟩, ⟨some 17, some (13, false), .arith .gtr (t 16) (v (I 800))⟩, ⟨some 18, none, .pick (t 13) (v (.bool true)) (t 17)⟩, ⟨some 19, none, .mov (t 18)⟩, ⟨some 20, some (19, false), .fieldAddr 0 (t 1)⟩, ⟨some 21, some (19, false), .load none (t 20)⟩, ⟨some 22, some (19, false), .arith .lss (t 21) (v (I 0))⟩, ⟨some 23, none, .pick (t 19) (v (.bool true)) (t 22)⟩, ⟨some 24, none, .mov (t 23)⟩, ⟨some 25, some (24, false), .fieldAddr 0 (t 1)⟩, ⟨some 26, some (24, false), .load none (t 25)⟩, ⟨some 27, some (24, false), .arith .gtr (t 26) (v (I 1000))⟩, ⟨some 28, none, .pick (t 24) (v (.bool true)) (t 27)⟩]) (.cond (t 28) (.seq (.ops [⟨some 2, none, .mov (v (I 5))⟩]) .ret) .skip)) (.seq (.ops [⟨some 3, none, .mov (v (I 0))⟩]) (.seq (.seq (.ops [⟨some 4, none, .mov (v (I 0))⟩]) (.block 0 (.loop (.seq (.seq (.ops [⟨some 29, none, .mov (t 4)⟩, ⟨some 30, none, .fieldAddr 1 (t 1)⟩, ⟨some 31, none, .load none (t 30)⟩, ⟨some 32, none, .lenSl (t 31)⟩, ⟨some 33, none, .arith .lss (t 29) (t 32)⟩]) (.cond (t 33) .skip (.exit 0))) (.seq (.block 1 (.seq (.ops [⟨some 36, none, .mov (t 3)⟩, ⟨some 37, none, .fieldAddr 1 (t 1)⟩, ⟨some 38, none, .load none (t 37)⟩, ⟨some 39, none, .mov (t 4)⟩, ⟨some 40, none, .indexAddr 4 (t 38) (t 39)⟩, ⟨some 41, none, .fieldAddr 3 (t 40)⟩, ⟨some 42, none, .load none (t 41)⟩, ⟨some 43, none, .lenSl (t 42)⟩, ⟨some 44, none, .arith .add (t 36) (t 43)⟩, ⟨some 3, none, .mov (t 44)⟩]) (.seq (.ops [⟨some 45, none, .fieldAddr 1 (t 1)⟩, ⟨some 46, none, .load none (t 45)⟩, ⟨some 47, none, .mov (t 4)⟩, ⟨some 48, none, .indexAddr 4 (t 46) (t 47)⟩, ⟨some 49, none, .fieldAddr 1 (t 48)⟩, ⟨some 50, none, .load none (t 49)⟩, ⟨some 51, none, .arith .gtr (t 50) (v (I 5000))⟩]) (.cond (t 51) (.seq (.ops [⟨some 2, none, .mov (v (I 5))⟩]) .ret) .skip)))) (.ops [⟨some 34, none, .mov (t 4)⟩, ⟨some 35, none, .arith .add (t 34) (v (I 1))⟩, ⟨some 4, none, .mov (t 35)⟩])))))) (.seq (.seq (.ops [⟨some 52, none, .mov (t 3)⟩, ⟨some 53, none, .arith .gtr (t 52) (v (I 20000))⟩]) (.cond (t 53) (.seq (.ops [⟨some 2, none, .mov (v (I 5))⟩]) .ret) .skip)) (.seq (.seq (.ops [⟨some 5, none, .mov (v (I 0))⟩]) (.block 2 (.loop (.seq (.seq (.ops [⟨some 54, none, .mov (t 5)⟩, ⟨some 55, none, .fieldAddr 1 (t 1)⟩, ⟨some 56, none, .load none (t 55)⟩, ⟨some 57, none, .lenSl (t 56)⟩, ⟨some 58, none, .arith .lss (t 54) (t 57)⟩]) (.cond (t 58) .skip (.exit 2))) (.seq (.block 3 (.seq (.ops [⟨some 61, none, .fieldAddr 1 (t 1)⟩, ⟨some 62, none, .load none (t 61)⟩, ⟨some 63, none, .mov (t 5)⟩, ⟨some 64, none, .indexAddr 4 (t 62) (t 63)⟩, ⟨some 65, none, .load (some 4) (t 64)⟩, ⟨some 6, none, .box 65 (v (.agg #[(S []), (I 0), (I 0), (.slice none 0 0)]))⟩, ⟨none, none, .store 4 (t 6) (t 65)⟩]) (.seq (.seq (.ops [⟨some 66, none, .fieldAddr 0 (t 6)⟩, ⟨some 67, none, .load none (t 66)⟩, ⟨some 68, none, .call (v (Fn 81)) [(t 67)]⟩, ⟨some 69, none, .un .not (t 68)⟩, ⟨some 70, none, .mov (t 69)⟩, ⟨some 71, some (70, false), .fieldAddr 2 (t 6)⟩, ⟨some 72, some (70, false), .load none (t 71)⟩, ⟨some 73, some (70, false), .arith .lss (t 72) (v (I 0))⟩, ⟨some 74, none, .pick (t 70) (v (.bool true)) (t 73)⟩, ⟨some 75, none, .mov (t 74)⟩, ⟨some 76, some (75, false), .fieldAddr 2 (t 6)⟩, ⟨some 77, some (75, false), .load none (t 76)⟩, ⟨some 78, some (75, false), .fieldAddr 1 (t 6)⟩, ⟨some 79, some (75, false), .load none (t 78)⟩, ⟨some 80, some (75, false), .arith .gtr (t 77) (t 79)⟩, ⟨some 81, none, .pick (t 75) (v (.bool true)) (t 80)⟩, ⟨some 82, none, .mov (t 81)⟩, ⟨some 83, some (82, false), .mov (t 5)⟩, ⟨some 84, some (82, false), .arith .eql (t 83) (v (I 0))⟩, ⟨some 85, some (82, false), .mov (t 84)⟩, ⟨some 86, some (85, true), .fieldAddr 2 (t 6)⟩, ⟨some 87, some (85, true), .load none (t 86)⟩, ⟨some 88, some (85, true), .arith .gtr (t 87) (v (I 0))⟩, ⟨some 89, some (82, false), .pick (t 85) (t 88) (v (.bool false))⟩, ⟨some 90, none, .pick (t 82) (v (.bool true)) (t 89)⟩, ⟨some 91, none, .mov (t 90)⟩, ⟨some 92, some (91, false), .fieldAddr 3 (t 6)⟩, ⟨some 93, some (91, false), .load none (t 92)⟩, ⟨some 94, some (91, false), .lenSl (t 93)⟩, ⟨some 95, some (91, false), .arith .eql (t 94) (v (I 0))⟩, ⟨some 96, none, .pick (t 91) (v (.bool true)) (t 95)⟩]) (.cond (t 96) (.seq (.ops [⟨some 2, none, .mov (v (I 190))⟩]) .ret) .skip)) (.seq (.seq (.ops [⟨some 97, none, .fieldAddr 3 (t 6)⟩, ⟨some 98, none, .load none (t 97)⟩, ⟨some 99, none, .fieldAddr 3 (t 6)⟩, ⟨some 100, none, .load none (t 99)⟩, ⟨some 101, none, .lenSl (t 100)⟩, ⟨some 102, none, .arith .sub (t 101) (v (I 1))⟩, ⟨some 103, none, .indexAddr 7 (t 98) (t 102)⟩, ⟨some 104, none, .fieldAddr 0 (t 103)⟩, ⟨some 105, none, .load none (t 104)⟩, ⟨some 7, none, .mov (t 105)⟩]) (.seq (.ops [⟨some 106, none, .mov (t 7)⟩, ⟨some 107, none, .arith .neq (t 106) (v (I 22))⟩, ⟨some 108, none, .mov (t 107)⟩, ⟨some 109, some (108, true), .mov (t 7)⟩, ⟨some 110, some (108, true), .arith .neq (t 109) (v (I 19))⟩, ⟨some 111, none, .pick (t 108) (t 110) (v (.bool false))⟩]) (.cond (t 111) (.seq (.ops [⟨some 2, none, .mov (v (I 190))⟩]) .ret) .skip))) (.seq (.ops [⟨some 8, none, .mov (v (I 0))⟩]) (.block 4 (.loop (.seq (.seq (.ops [⟨some 112, none, .mov (t 8)⟩, ⟨some 113, none, .fieldAddr 3 (t 6)⟩, ⟨some 114, none, .load none (t 113)⟩, ⟨some 115, none, .lenSl (t 114)⟩, ⟨some 116, none, .arith .lss (t 112) (t 115)⟩]) (.cond (t 116) .skip (.exit 4))) (.seq (.block 5 (.seq (.draw [⟨some 119, none, .load (some 2) (t 1)⟩, ⟨some 120, none, .load (some 4) (t 6)⟩, ⟨some 121, none, .fieldAddr 3 (t 6)⟩, ⟨some 122, none, .load none (t 121)⟩, ⟨some 123, none, .mov (t 8)⟩, ⟨some 124, none, .indexAddr 7 (t 122) (t 123)⟩, ⟨some 125, none, .load (some 7) (t 124)⟩] [⟨some 126, none, .call (v (Fn 82)) [(t 119), (t 120), (t 125)]⟩, ⟨some 127, none, .un .not (t 126)⟩]) (.cond (t 127) (.seq (.ops [⟨some 2, none, .mov (v (I 190))⟩]) .ret) .skip))) (.ops [⟨some 117, none, .mov (t 8)⟩, ⟨some 118, none, .arith .add (t 117) (v (I 1))⟩, ⟨some 8, none, .mov (t 118)⟩])))))))))) (.ops [⟨some 59, none, .mov (t 5)⟩, ⟨some 60, none, .arith .add (t 59) (v (I 1))⟩, ⟨some 5, none, .mov (t 60)⟩])))))) (.seq (.ops [⟨some 2, none, .mov (v (I 0))⟩]) .ret)))))))⟩
def ir71 : IFunc := ⟨98, [.tmp 2, .tmp 3], (.seq (.ops [⟨some 1, none, .box 62 (t 0)⟩, ⟨some 2, none, .mov (v (.slice none 0 0))⟩, ⟨some 3, none, .mov (v (I 0))⟩]) (.seq (.seq (.ops [⟨some 10, none, .fieldAddr 0 (t 1)⟩, ⟨some 11, none, .load none (t 10)⟩, ⟨some 12, none, .arith .lss (t 11) (v (I 1))⟩, ⟨some 13, none, .mov (t 12)⟩, ⟨some 14, some (13, false), .fieldAddr 0 (t 1)⟩, ⟨some 15, some (13, false), .load none (t 14)⟩, ⟨some 16, some (13, false), .arith .gtr (t 15) (v (I 37))⟩, ⟨some 17, none, .pick (t 13) (v (.bool true)) (t 16)⟩]) (.cond (t 17) (.seq (.ops [⟨some 2, none, .mov (v (.slice none 0 0))⟩, ⟨some 3, none, .mov (v (I (-1)))⟩]) .ret) .skip)) (.seq (.ops [⟨some 18, none, .fieldAddr 0 (t 1)⟩, ⟨some 19, none, .load none (t 18)⟩, ⟨some 20, none, .call (v (Fn 83)) [(t 19)]⟩, ⟨some 4, none, .mov (t 20)⟩]) (.seq (.ops [⟨some 21, none, .fieldAddr 1 (t 1)⟩, ⟨some 22, none, .load none (t 21)⟩, ⟨some 23, none, .fieldAddr 2 (t 1)⟩, ⟨some 24, none, .load none (t 23)⟩, ⟨some 25, none, .fieldAddr 3 (t 1)⟩, ⟨some 26, none, .load none (t 25)⟩, ⟨some 27, none, .fieldAddr 4 (t 1)⟩, ⟨some 28, none, .load none (t 27)⟩, ⟨some 29, none, .buildSlice 3 4 [(I 0), (I 0), (I 0), (I 0)] [(0, 1, (t 22)), (1, 1, (t 24)), (2, 1, (t 26)), (3, 1, (t 28))]⟩, ⟨some 5, none, .mov (t 29)⟩]) (.seq (.ops [⟨some 30, none, .buildSlice 3 0 [] []⟩, ⟨some 6, none, .mov (t 30)⟩]) (.seq (.ops [⟨some 7, none, .mov (v (I (-1)))⟩]) (.seq (.seq (.ops [⟨some 8, none, .mov (v (I 0))⟩]) (.block 0 (.loop (.seq (.seq (.ops [⟨some 31, none, .mov (t 8)⟩, ⟨some 32, none, .arith .lss (t 31) (v (I 4))⟩]) (.cond (t 32) .skip (.exit 0))) (.seq (.block 1 (.seq (.seq (.ops [⟨some 35, none, .mov (t 4)⟩, ⟨some 36, none, .mov (t 8)⟩, ⟨some 37, none, .indexStr (t 35) (t 36)⟩, ⟨some 38, none, .arith .neq (t 37) (v (.int .u8 114))⟩, ⟨some 39, none, .mov (t 38)⟩, ⟨some 40, some (39, true), .mov (t 4)⟩, ⟨some 41, some (39, true), .mov (t 8)⟩, ⟨some 42, some (39, true), .indexStr (t 40) (t 41)⟩, ⟨some 43, some (39, true), .arith .neq (t 42) (v (.int .u8 82))⟩, ⟨some 44, none, .pick (t 39) (t 43) (v (.bool false))⟩, ⟨some 45, none, .mov (t 44)⟩, ⟨some 46, some (45, false), .mov (t 5)⟩, ⟨some 47, some (45, false), .mov (t 8)⟩, ⟨some 48, some (45, false), .indexAddr 1 (t 46) (t 47)⟩, ⟨some 49, some (45, false), .load none (t 48)⟩, ⟨some 50, some (45, false), .arith .eql (t 49) (v (I (-1)))⟩, ⟨some 51, none, .pick (t 45) (v (.bool true)) (t 50)⟩]) (.cond (t 51) (.exit 1) .skip)) (.seq (.draw [⟨some 52, none, .mov (t 8)⟩, ⟨some 53, none, .arith .eql (t 52) (v (I 0))⟩, ⟨some 54, none, .mov (t 53)⟩, ⟨some 55, some (54, true), .buildSlice 9 7 [(S []), (S []), (S []), (S []), (S []), (S []), (S [])] [(0, 1, (v (S [115, 116, 111, 114, 101]))), (1, 1, (v (S [105, 102]))), (2, 1, (v (S [114, 101, 116, 117, 114, 110]))), (3, 1, (v (S [103, 111]))), (4, 1, (v (S [119, 97, 105, 116]))), (5, 1, (v (S [97, 115, 115, 101, 114, 116]))), (6, 1, (v (S [115, 112, 97, 119, 110])))]⟩, ⟨some 56, some (54, true), .call (v (Fn 85)) []⟩, ⟨some 57, some (54, true), .fieldAddr 0 (t 1)⟩, ⟨some 58, some (54, true), .load none (t 57)⟩, ⟨some 59, some (54, true), .indexAddr 1 (t 56) (t 58)⟩, ⟨some 60, some (54, true), .load none (t 59)⟩] [⟨some 61, some (54, true), .call (v (Fn 84)) [(t 55), (t 60)]⟩, ⟨some 62, some (54, true), .un .not (t 61)⟩, ⟨some 63, none, .pick (t 54) (t 62) (v (.bool false))⟩]) (.cond (t 63) (.ops [⟨some 64, none, .mov (t 5)⟩, ⟨some 65, none, .mov (t 8)⟩, ⟨some 66, none, .indexAddr 1 (t 64) (t 65)⟩, ⟨some 67, none, .load none (t 66)⟩, ⟨some 7, none, .mov (t 67)⟩]) (.ops [⟨some 68, none, .mov (t 6)⟩, ⟨some 69, none, .mov (t 5)⟩, ⟨some 70, none, .mov (t 8)⟩, ⟨some 71, none, .indexAddr 1 (t 69) (t 70)⟩, ⟨some 72, none, .load none (t 71)⟩, ⟨some 73, none, .buildSlice 3 1 [(I 0)] [(0, 1, (t 72))]⟩, ⟨some 74, none, .append 3 1 8 (t 68) (t 73)⟩, ⟨some 6, none, .mov (t 74)⟩]))))) (.ops [⟨some 33, none, .mov (t 8)⟩, ⟨some 34, none, .arith .add (t 33) (v (I 1))⟩, ⟨some 8, none, .mov (t 34)⟩])))))) (.seq (.seq (.ops [⟨some 9, none, .mov (v (I 0))⟩]) (.block 2 (.loop (.seq (.seq (.ops [⟨some 75, none, .mov (t 9)⟩, ⟨some 76, none, .fieldAddr 6 (t 1)⟩, ⟨some 77, none, .load none (t 76)⟩, ⟨some 78, none, .lenSl (t 77)⟩, ⟨some 79, none, .arith .lss (t 75) (t 78)⟩]) (.cond (t 79) .skip (.exit 2))) (.seq (.block 3 (.seq (.ops [⟨some 82, none, .fieldAddr 6 (t 1)⟩, ⟨some 83, none, .load none (t 82)⟩, ⟨some 84, none, .mov (t 9)⟩, ⟨some 85, none, .indexAddr 1 (t 83) (t 84)⟩, ⟨some 86, none, .load none (t 85)⟩, ⟨some 87, none, .arith .neq (t 86) (v (I (-1)))⟩]) (.cond (t 87) (.ops [⟨some 88, none, .mov (t 6)⟩, ⟨some 89, none, .fieldAddr 6 (t 1)⟩, ⟨some 90, none, .load none (t 89)⟩, ⟨some 91, none, .mov (t 9)⟩, ⟨some 92, none, .indexAddr 1 (t 90) (t 91)⟩, ⟨some 93, none, .load none (t 92)⟩, ⟨some 94, none, .buildSlice 3 1 [(I 0)] [(0, 1, (t 93))]⟩, ⟨some 95, none, .append 3 1 8 (t 88) (t 94)⟩, ⟨some 6, none, .mov (t 95)⟩]) .skip))) (.ops [⟨some 80, none, .mov (t 9)⟩, ⟨some 81, none, .arith .add (t 80) (v (I 1))⟩, ⟨some 9, none, .mov (t 81)⟩])))))) (.seq (.ops [⟨some 96, none, .mov (t 6)⟩, ⟨some 97, none, .mov (t 7)⟩, ⟨some 2, none, .mov (t 96)⟩, ⟨some 3, none, .mov (t 97)⟩]) .ret)))))))))⟩
def ir72 : IFunc := ⟨12, [.tmp 2, .tmp 3], (.seq (.ops [⟨some 1, none, .box 62 (t 0)⟩, ⟨some 2, none, .mov (v (.bool false))⟩, ⟨some 3, none, .mov (v (.bool false))⟩]) (.seq (.seq (.ops [⟨some 4, none, .fieldAddr 0 (t 1)⟩, ⟨some 5, none, .load none (t 4)⟩]) (.block 0 (.seq (.seq (.ops [⟨some 7, none, .arith .eql (t 5) (v (I 19))⟩, ⟨some 6, none, .mov (t 7)⟩]) (.cond (t 6) .skip (.ops [⟨some 8, none, .arith .eql (t 5) (v (I 20))⟩, ⟨some 6, none, .mov (t 8)⟩]))) (.cond (t 6) (.seq (.ops [⟨some 2, none, .mov (v (.bool true))⟩, ⟨some 3, none, .mov (v (.bool true))⟩]) .ret) .skip)))) (.seq (.ops [⟨some 9, none, .fieldAddr 0 (t 1)⟩, ⟨some 10, none, .load none (t 9)⟩, ⟨some 11, none, .arith .eql (t 10) (v (I 22))⟩, ⟨some 2, none, .mov (t 11)⟩, ⟨some 3, none, .mov (v (.bool false))⟩]) .ret)))⟩
def ir73 : IFunc := ⟨9, [.tmp 4], (.seq (.ops [⟨some 4, none, .mov (v (.bool false))⟩]) (.seq (.ops [⟨some 5, none, .mov (t 0)⟩, ⟨some 6, none, .mov (t 1)⟩, ⟨some 7, none, .call (v (Fn 86)) [(t 5), (t 6)]⟩, ⟨some 8, none, .arith .geq (t 7) (v (I 0))⟩, ⟨some 4, none, .mov (t 8)⟩]) .ret))⟩
def ir74 : IFunc := ⟨6, [.tmp 2], (.seq (.ops [⟨some 1, none, .box 65 (t 0)⟩, ⟨some 2, none, .mov (v (.bool false))⟩]) (.seq (.ops [⟨some 3, none, .fieldAddr 1 (t 1)⟩, ⟨some 4, none, .load none (t 3)⟩, ⟨some 5, none, .arith .gtr (t 4) (v (I 5000))⟩, ⟨some 2, none, .mov (t 5)⟩]) .ret))⟩
def ir75 : IFunc := ⟨24, [.tmp 2], (.seq (.ops [⟨some 2, none, .mov (v (.bool false))⟩]) (.seq (.seq (.ops [⟨some 3, none, .mov (t 0)⟩, ⟨some 4, none, .lenStr (t 3)⟩, ⟨some 5, none, .arith .lss (t 4) (v (I 1))⟩, ⟨some 6, none, .mov (t 5)⟩, ⟨some 7, some (6, false), .mov (t 0)⟩, ⟨some 8, some (6, false), .lenStr (t 7)⟩, ⟨some 9, some (6, false), .arith .gtr (t 8) (v (I 60))⟩, ⟨some 10, none, .pick (t 6) (v (.bool true)) (t 9)⟩, ⟨some 11, none, .mov (t 10)⟩, ⟨some 12, some (11, false), .mov (t 0)⟩, ⟨some 13, some (11, false), .indexStr (t 12) (v (I 0))⟩, ⟨some 14, some (11, false), .arith .geq (t 13) (v (.int .u8 48))⟩, ⟨some 15, some (11, false), .mov (t 14)⟩, ⟨some 16, some (15, true), .mov (t 0)⟩, ⟨some 17, some (15, true), .indexStr (t 16) (v (I 0))⟩, ⟨some 18, some (15, true), .arith .leq (t 17) (v (.int .u8 57))⟩, ⟨some 19, some (11, false), .pick (t 15) (t 18) (v (.bool false))⟩, ⟨some 20, none, .pick (t 11) (v (.bool true)) (t 19)⟩]) (.cond (t 20) (.seq (.ops [⟨some 2, none, .mov (v (.bool false))⟩]) .ret) .skip)) (.seq (.ops [⟨some 21, none, .mov (t 0)⟩, ⟨some 22, none, .call (v (Fn 87)) [(t 21), (v (Fn 88))]⟩, ⟨some 23, none, .un .not (t 22)⟩, ⟨some 2, none, .mov (t 23)⟩]) .ret)))⟩
def ir76 : IFunc := ⟨9, [.tmp 4], (.seq (.ops [⟨some 4, none, .mov (v (.bool false))⟩]) (.seq (.ops [⟨some 5, none, .mov (t 0)⟩, ⟨some 6, none, .mov (t 1)⟩, ⟨some 7, none, .call (v (Fn 89)) [(t 5), (t 6)]⟩, ⟨some 8, none, .arith .geq (t 7) (v (I 0))⟩, ⟨some 4, none, .mov (t 8)⟩]) .ret))⟩
def ir77 : IFunc := ⟨10, [.tmp 4], (.seq (.ops [⟨some 3, none, .box 62 (t 0)⟩, ⟨some 4, none, .mov (v (.bool false))⟩]) (.seq (.ops [⟨some 5, none, .load (some 2) (t 1)⟩, ⟨some 6, none, .load (some 4) (t 2)⟩, ⟨some 7, none, .load (some 7) (t 3)⟩, ⟨some 8, none, .call (v (Fn 78)) [(t 5), (t 6), (t 7)]⟩, ⟨some 9, none, .un .not (t 8)⟩, ⟨some 4, none, .mov (t 9)⟩]) .ret))⟩
def ir78 : IFunc := ⟨111, [.tmp 6], (.seq (.ops [⟨some 3, none, .box 53 (t 0)⟩, ⟨some 4, none, .box 65 (t 1)⟩, ⟨some 5, none, .box 62 (t 2)⟩, ⟨some 6, none, .mov (v (.bool false))⟩]) (.seq (.ops [⟨some 16, none, .fieldAddr 0 (t 5)⟩, ⟨some 17, none, .load none (t 16)⟩, ⟨some 18, none, .call (v (Fn 65)) [(t 17)]⟩, ⟨some 15, none, .mov (t 18)⟩, ⟨some 19, none, .extract (t 15) 0⟩, ⟨some 20, none, .extract (t 15) 1⟩, ⟨some 7, none, .box 106 (v (.agg #[(S []), (I 0), (I 0), (I 0), (I 0), (S [])]))⟩, ⟨none, none, .store 6 (t 7) (t 19)⟩, ⟨some 8, none, .mov (t 20)⟩]) (.seq (.seq (.ops [⟨some 21, none, .mov (t 8)⟩, ⟨some 22, none, .un .not (t 21)⟩]) (.cond (t 22) (.seq (.ops [⟨some 6, none, .mov (v (.bool false))⟩]) .ret) .skip)) (.seq (.seq (.ops [⟨some 23, none, .load (some 6) (t 7)⟩, ⟨some 24, none, .load (some 7) (t 5)⟩, ⟨some 25, none, .call (v (Fn 66)) [(t 23), (t 24)]⟩, ⟨some 26, none, .mov (v (I 0))⟩]) (.block 0 (.loop (.seq (.ops [⟨some 27, none, .arith .lss (t 26) (v (I 4))⟩]) (.seq (.cond (t 27) .skip (.exit 0)) (.seq (.block 1 (.seq (.ops [⟨some 28, none, .indexArr 4 2 (some 2) (t 25) (t 26)⟩, ⟨some 10, none, .box 109 (v (.agg #[(I 0), (I 0)]))⟩, ⟨none, none, .store 2 (t 10) (t 28)⟩]) (.seq (.ops [⟨some 29, none, .load (some 2) (t 3)⟩, ⟨some 30, none, .load (some 4) (t 4)⟩, ⟨some 31, none, .indexAddrArr 2 1 (t 10) (v (I 0))⟩, ⟨some 32, none, .load none (t 31)⟩, ⟨some 33, none, .indexAddrArr 2 1 (t 10) (v (I 1))⟩, ⟨some 34, none, .load none (t 33)⟩, ⟨some 35, none, .call (v (Fn 90)) [(t 29), (t 30), (t 32), (t 34)]⟩, ⟨some 36, none, .un .not (t 35)⟩]) (.cond (t 36) (.seq (.ops [⟨some 6, none, .mov (v (.bool false))⟩]) .ret) .skip)))) (.ops [⟨some 37, none, .arith .add (t 26) (v (I 1))⟩, ⟨some 26, none, .mov (t 37)⟩]))))))) (.seq (.block 2 (.seq (.ops [⟨some 39, none, .fieldAddr 0 (t 5)⟩, ⟨some 40, none, .load none (t 39)⟩, ⟨some 41, none, .arith .eql (t 40) (v (I 36))⟩, ⟨some 38, none, .mov (t 41)⟩]) (.cond (t 38) (.seq (.ops [⟨some 42, none, .fieldAddr 5 (t 5)⟩, ⟨some 43, none, .load none (t 42)⟩, ⟨some 44, none, .lenStr (t 43)⟩, ⟨some 45, none, .mov (v (I 0))⟩]) (.block 3 (.loop (.seq (.ops [⟨some 46, none, .arith .lss (t 45) (t 44)⟩]) (.seq (.cond (t 46) .skip (.exit 3)) (.seq (.block 4 (.seq (.ops [⟨some 47, none, .mov (t 45)⟩, ⟨some 11, none, .mov (t 47)⟩]) (.seq (.ops [⟨some 48, none, .fieldAddr 5 (t 5)⟩, ⟨some 49, none, .load none (t 48)⟩, ⟨some 50, none, .mov (t 11)⟩, ⟨some 51, none, .indexStr (t 49) (t 50)⟩, ⟨some 12, none, .mov (t 51)⟩]) (.seq (.ops [⟨some 52, none, .mov (t 12)⟩, ⟨some 53, none, .arith .neq (t 52) (v (.int .u8 0))⟩, ⟨some 54, none, .mov (t 53)⟩, ⟨some 55, some (54, true), .mov (t 12)⟩, ⟨some 56, some (54, true), .arith .lss (t 55) (v (.int .u8 32))⟩, ⟨some 57, some (54, true), .mov (t 56)⟩, ⟨some 58, some (57, false), .mov (t 12)⟩, ⟨some 59, some (57, false), .arith .gtr (t 58) (v (.int .u8 126))⟩, ⟨some 60, some (54, true), .pick (t 57) (v (.bool true)) (t 59)⟩, ⟨some 61, none, .pick (t 54) (t 60) (v (.bool false))⟩]) (.cond (t 61) (.seq (.ops [⟨some 6, none, .mov (v (.bool false))⟩]) .ret) .skip))))) (.ops [⟨some 62, none, .arith .add (t 45) (v (I 1))⟩, ⟨some 45, none, .mov (t 62)⟩]))))))) (.seq (.draw [⟨some 64, none, .fieldAddr 5 (t 7)⟩, ⟨some 65, none, .load none (t 64)⟩, ⟨some 66, none, .arith .eql (t 65) (v (S []))⟩, ⟨some 67, none, .mov (t 66)⟩, ⟨some 68, some (67, true), .fieldAddr 5 (t 5)⟩, ⟨some 69, some (67, true), .load none (t 68)⟩, ⟨some 70, some (67, true), .arith .neq (t 69) (v (S []))⟩, ⟨some 71, none, .pick (t 67) (t 70) (v (.bool false))⟩, ⟨some 72, none, .mov (t 71)⟩, ⟨some 73, some (72, false), .fieldAddr 5 (t 7)⟩, ⟨some 74, some (72, false), .load none (t 73)⟩, ⟨some 75, some (72, false), .arith .neq (t 74) (v (S []))⟩, ⟨some 76, some (72, false), .mov (t 75)⟩, ⟨some 77, some (76, true), .fieldAddr 5 (t 7)⟩, ⟨some 78, some (76, true), .load none (t 77)⟩, ⟨some 79, some (76, true), .call (v (Fn 92)) [(t 78)]⟩, ⟨some 80, some (76, true), .fieldAddr 5 (t 5)⟩, ⟨some 81, some (76, true), .load none (t 80)⟩] [⟨some 82, some (76, true), .call (v (Fn 91)) [(t 79), (t 81)]⟩, ⟨some 83, some (76, true), .un .not (t 82)⟩, ⟨some 84, some (72, false), .pick (t 76) (t 83) (v (.bool false))⟩, ⟨some 85, none, .pick (t 72) (v (.bool true)) (t 84)⟩, ⟨some 63, none, .mov (t 85)⟩]) (.cond (t 63) (.seq (.ops [⟨some 6, none, .mov (v (.bool false))⟩]) .ret) .skip))))) (.seq (.ops [⟨some 87, none, .load (some 2) (t 3)⟩, ⟨some 88, none, .load (some 7) (t 5)⟩, ⟨some 89, none, .call (v (Fn 93)) [(t 87), (t 88)]⟩, ⟨some 86, none, .mov (t 89)⟩, ⟨some 90, none, .extract (t 86) 0⟩, ⟨some 91, none, .extract (t 86) 1⟩, ⟨some 13, none, .mov (t 90)⟩, ⟨some 14, none, .mov (t 91)⟩]) (.seq (.ops [⟨some 92, none, .fieldAddr 6 (t 5)⟩, ⟨some 93, none, .load none (t 92)⟩, ⟨some 94, none, .lenSl (t 93)⟩, ⟨some 95, none, .mov (t 13)⟩, ⟨some 96, none, .arith .geq (t 94) (t 95)⟩, ⟨some 97, none, .mov (t 96)⟩, ⟨some 98, some (97, true), .fieldAddr 6 (t 5)⟩, ⟨some 99, some (97, true), .load none (t 98)⟩, ⟨some 100, some (97, true), .lenSl (t 99)⟩, ⟨some 101, some (97, true), .mov (t 14)⟩, ⟨some 102, some (97, true), .arith .leq (t 100) (t 101)⟩, ⟨some 103, none, .pick (t 97) (t 102) (v (.bool false))⟩, ⟨some 104, none, .mov (t 103)⟩, ⟨some 105, some (104, true), .fieldAddr 6 (t 5)⟩, ⟨some 106, some (104, true), .load none (t 105)⟩, ⟨some 107, some (104, true), .func 95 [] [(t 3), (t 4)]⟩, ⟨some 108, some (104, true), .call (v (Fn 94)) [(t 106), (t 107)]⟩, ⟨some 109, some (104, true), .un .not (t 108)⟩, ⟨some 110, none, .pick (t 104) (t 109) (v (.bool false))⟩, ⟨some 6, none, .mov (t 110)⟩]) .ret)))))))⟩
def ir79 : IFunc := ⟨39, [.cell 0 (some 228)], (.seq (.ops [⟨some 0, none, .box 123 (v (.agg #[(S []), (I 0), (I 0), (I 0), (I 0), (S []), (S []), (I 0), (I 0), (I 0), (I 0), (S []), (S []), (I 0), (I 0), (I 0), (I 0), (S []), (S []), (I 0), (I 0), (I 0), (I 0), (S []), (S []), (I 0), (I 0), (I 0), (I 0), (S []), (S []), (I 0), (I 0), (I 0), (I 0), (S []), (S []), (I 0), (I 0), (I 0), (I 0), (S []), (S []), (I 0), (I 0), (I 0), (I 0), (S []), (S []), (I 0), (I 0), (I 0), (I 0), (S []), (S []), (I 0), (I 0), (I 0), (I 0), (S []), (S []), (I 0), (I 0), (I 0), (I 0), (S []), (S []), (I 0), (I 0), (I 0), (I 0), (S []), (S []), (I 0), (I 0), (I 0), (I 0), (S []), (S []), (I 0), (I 0), (I 0), (I 0), (S []), (S []), (I 0), (I 0), (I 0), (I 0), (S []), (S []), (I 0), (I 0), (I 0), (I 0), (S []), (S []), (I 0), (I 0), (I 0), (I 0), (S []), (S []), (I 0), (I 0), (I 0), (I 0), (S []), (S []), (I 0), (I 0), (I 0), (I 0), (S []), (S []), (I 0), (I 0), (I 0), (I 0), (S []), (S []), (I 0), (I 0), (I 0), (I 0), (S []), (S []), (I 0), (I 0), (I 0), (I 0), (S []), (S []), (I 0), (I 0), (I 0), (I 0), (S []), (S []), (I 0), (I 0), (I 0), (I 0), (S []), (S []), (I 0), (I 0), (I 0), (I 0), (S []), (S []), (I 0), (I 0), (I 0), (I 0), (S []), (S []), (I 0), (I 0), (I 0), (I 0), (S []), (S []), (I 0), (I 0), (I 0), (I 0), (S []), (S []), (I 0), (I 0), (I 0), (I 0), (S []), (S []), (I 0), (I 0), (I 0), (I 0), (S []), (S []), (I 0), (I 0), (I 0), (I 0), (S []), (S []), (I 0), (I 0), (I 0), (I 0), (S []), (S []), (I 0), (I 0), (I 0), (I 0), (S []), (S []), (I 0), (I 0), (I 0), (I 0), (S []), (S []), (I 0), (I 0), (I 0), (I 0), (S []), (S []), (I 0), (I 0), (I 0), (I 0), (S []), (S []), (I 0), (I 0), (I 0), (I 0), (S []), (S []), (I 0), (I 0), (I 0), (I 0), (S [])]))⟩]) (.seq (.ops [⟨some 1, none, .build [(S []), (I 0), (I 0), (I 0), (I 0), (S [])] [(0, 1, (v (S [115, 101, 116]))), (1, 1, (v (I 3))), (2, 1, (v (I 5))), (3, 1, (v (I 0))), (4, 1, (v (I 0))), (5, 1, (v (S [])))]⟩, ⟨some 2, none, .build [(S []), (I 0), (I 0), (I 0), (I 0), (S [])] [(0, 1, (v (S [99, 111, 112, 121]))), (1, 1, (v (I 3))), (2, 1, (v (I 1))), (3, 1, (v (I 0))), (4, 1, (v (I 0))), (5, 1, (v (S [])))]⟩, ⟨some 3, none, .build [(S []), (I 0), (I 0), (I 0), (I 0), (S [])] [(0, 1, (v (S [117, 110, 97, 114, 121]))), (1, 1, (v (I 3))), (2, 1, (v (I 1))), (3, 1, (v (I 0))), (4, 1, (v (I 0))), (5, 1, (v (S [45, 32, 33])))]⟩, ⟨some 4, none, .build [(S []), (I 0), (I 0), (I 0), (I 0), (S [])] [(0, 1, (v (S [98, 105, 110, 97, 114, 121]))), (1, 1, (v (I 3))), (2, 1, (v (I 1))), (3, 1, (v (I 1))), (4, 1, (v (I 0))), (5, 1, (v (S [43, 32, 45, 32, 42, 32, 47, 32, 37, 32, 61, 61, 32, 33, 61, 32, 60, 32, 60, 61, 32, 62, 32, 62, 61, 32, 109, 105, 110, 32, 109, 97, 120, 32, 38, 38, 32, 124, 124])))]⟩, ⟨some 5, none, .build [(S []), (I 0), (I 0), (I 0), (I 0), (S [])] [(0, 1, (v (S [103, 101, 116]))), (1, 1, (v (I 3))), (2, 1, (v (I 6))), (3, 1, (v (I 0))), (4, 1, (v (I 0))), (5, 1, (v (S [])))]⟩, ⟨some 6, none, .build [(S []), (I 0), (I 0), (I 0), (I 0), (S [])] [(0, 1, (v (S [112, 117, 116]))), (1, 1, (v (I 6))), (2, 1, (v (I 1))), (3, 1, (v (I 0))), (4, 1, (v (I 0))), (5, 1, (v (S [])))]⟩, ⟨some 7, none, .build [(S []), (I 0), (I 0), (I 0), (I 0), (S [])] [(0, 1, (v (S [114, 97, 110, 103, 101]))), (1, 1, (v (I 3))), (2, 1, (v (I 1))), (3, 1, (v (I 1))), (4, 1, (v (I 0))), (5, 1, (v (S [])))]⟩, ⟨some 8, none, .build [(S []), (I 0), (I 0), (I 0), (I 0), (S [])] [(0, 1, (v (S [98, 121]))), (1, 1, (v (I 3))), (2, 1, (v (I 1))), (3, 1, (v (I 1))), (4, 1, (v (I 0))), (5, 1, (v (S [])))]⟩, ⟨some 9, none, .build [(S []), (I 0), (I 0), (I 0), (I 0), (S [])] [(0, 1, (v (S [99, 111, 117, 110, 116]))), (1, 1, (v (I 3))), (2, 1, (v (I 1))), (3, 1, (v (I 1))), (4, 1, (v (I 0))), (5, 1, (v (S [])))]⟩, ⟨some 10, none, .build [(S []), (I 0), (I 0), (I 0), (I 0), (S [])] [(0, 1, (v (S [100, 111, 109, 97, 105, 110]))), (1, 1, (v (I 3))), (2, 1, (v (I 0))), (3, 1, (v (I 0))), (4, 1, (v (I 0))), (5, 1, (v (S [])))]⟩, ⟨some 11, none, .build [(S []), (I 0), (I 0), (I 0), (I 0), (S [])] [(0, 1, (v (S [109, 97, 112]))), (1, 1, (v (I 3))), (2, 1, (v (I 1))), (3, 1, (v (I 10))), (4, 1, (v (I 2))), (5, 1, (v (S [])))]⟩, ⟨some 12, none, .build [(S []), (I 0), (I 0), (I 0), (I 0), (S [])] [(0, 1, (v (S [97, 114, 114, 97, 121]))), (1, 1, (v (I 3))), (2, 1, (v (I 1))), (3, 1, (v (I 0))), (4, 1, (v (I 0))), (5, 1, (v (S [])))]⟩, ⟨some 13, none, .build [(S []), (I 0), (I 0), (I 0), (I 0), (S [])] [(0, 1, (v (S [99, 101, 108, 108]))), (1, 1, (v (I 3))), (2, 1, (v (I 0))), (3, 1, (v (I 0))), (4, 1, (v (I 0))), (5, 1, (v (S [])))]⟩, ⟨some 14, none, .build [(S []), (I 0), (I 0), (I 0), (I 0), (S [])] [(0, 1, (v (S [97, 116, 111, 109, 105, 99]))), (1, 1, (v (I 3))), (2, 1, (v (I 0))), (3, 1, (v (I 0))), (4, 1, (v (I 0))), (5, 1, (v (S [])))]⟩, ⟨some 15, none, .build [(S []), (I 0), (I 0), (I 0), (I 0), (S [])] [(0, 1, (v (S [102, 105, 101, 108, 100]))), (1, 1, (v (I 3))), (2, 1, (v (I 1))), (3, 1, (v (I 0))), (4, 1, (v (I 0))), (5, 1, (v (S [115, 105, 122, 101, 32, 108, 111, 119, 32, 104, 105, 103, 104, 32, 115, 116, 114, 105, 100, 101, 32, 100, 111, 109, 97, 105, 110])))]⟩, ⟨some 16, none, .build [(S []), (I 0), (I 0), (I 0), (I 0), (S [])] [(0, 1, (v (S [110, 116, 104]))), (1, 1, (v (I 3))), (2, 1, (v (I 1))), (3, 1, (v (I 9))), (4, 1, (v (I 1))), (5, 1, (v (S [])))]⟩, ⟨some 17, none, .build [(S []), (I 0), (I 0), (I 0), (I 0), (S [])] [(0, 1, (v (S [108, 111, 97, 100]))), (1, 1, (v (I 3))), (2, 1, (v (I 1))), (3, 1, (v (I 0))), (4, 1, (v (I 0))), (5, 1, (v (S [])))]⟩, ⟨some 18, none, .build [(S []), (I 0), (I 0), (I 0), (I 0), (S [])] [(0, 1, (v (S [115, 116, 111, 114, 101]))), (1, 1, (v (I 1))), (2, 1, (v (I 1))), (3, 1, (v (I 0))), (4, 1, (v (I 0))), (5, 1, (v (S [])))]⟩, ⟨some 19, none, .build [(S []), (I 0), (I 0), (I 0), (I 0), (S [])] [(0, 1, (v (S [106, 117, 109, 112]))), (1, 1, (v (I 0))), (2, 1, (v (I 0))), (3, 1, (v (I 7))), (4, 1, (v (I 0))), (5, 1, (v (S [])))]⟩, ⟨some 20, none, .build [(S []), (I 0), (I 0), (I 0), (I 0), (S [])] [(0, 1, (v (S [105, 102]))), (1, 1, (v (I 1))), (2, 1, (v (I 0))), (3, 1, (v (I 7))), (4, 1, (v (I 0))), (5, 1, (v (S [])))]⟩, ⟨some 21, none, .build [(S []), (I 0), (I 0), (I 0), (I 0), (S [])] [(0, 1, (v (S [99, 97, 108, 108]))), (1, 1, (v (I 4))), (2, 1, (v (I 8))), (3, 1, (v (I 0))), (4, 1, (v (I 0))), (5, 1, (v (S [])))]⟩, ⟨some 22, none, .build [(S []), (I 0), (I 0), (I 0), (I 0), (S [])] [(0, 1, (v (S [114, 101, 116, 117, 114, 110]))), (1, 1, (v (I 2))), (2, 1, (v (I 0))), (3, 1, (v (I 0))), (4, 1, (v (I 0))), (5, 1, (v (S [])))]⟩, ⟨some 23, none, .build [(S []), (I 0), (I 0), (I 0), (I 0), (S [])] [(0, 1, (v (S [104, 101, 114, 101]))), (1, 1, (v (I 3))), (2, 1, (v (I 0))), (3, 1, (v (I 0))), (4, 1, (v (I 0))), (5, 1, (v (S [])))]⟩, ⟨some 24, none, .build [(S []), (I 0), (I 0), (I 0), (I 0), (S [])] [(0, 1, (v (S [108, 111, 99, 97, 108, 101, 115]))), (1, 1, (v (I 3))), (2, 1, (v (I 0))), (3, 1, (v (I 0))), (4, 1, (v (I 0))), (5, 1, (v (S [])))]⟩, ⟨some 25, none, .build [(S []), (I 0), (I 0), (I 0), (I 0), (S [])] [(0, 1, (v (S [103, 111]))), (1, 1, (v (I 1))), (2, 1, (v (I 0))), (3, 1, (v (I 0))), (4, 1, (v (I 0))), (5, 1, (v (S [])))]⟩, ⟨some 26, none, .build [(S []), (I 0), (I 0), (I 0), (I 0), (S [])] [(0, 1, (v (S [99, 111, 117, 110, 116, 101, 114]))), (1, 1, (v (I 3))), (2, 1, (v (I 0))), (3, 1, (v (I 0))), (4, 1, (v (I 0))), (5, 1, (v (S [])))]⟩, ⟨some 27, none, .build [(S []), (I 0), (I 0), (I 0), (I 0), (S [])] [(0, 1, (v (S [115, 112, 97, 119, 110]))), (1, 1, (v (I 2))), (2, 1, (v (I 8))), (3, 1, (v (I 0))), (4, 1, (v (I 0))), (5, 1, (v (S [])))]⟩, ⟨some 28, none, .build [(S []), (I 0), (I 0), (I 0), (I 0), (S [])] [(0, 1, (v (S [119, 97, 105, 116]))), (1, 1, (v (I 1))), (2, 1, (v (I 0))), (3, 1, (v (I 0))), (4, 1, (v (I 0))), (5, 1, (v (S [])))]⟩, ⟨some 29, none, .build [(S []), (I 0), (I 0), (I 0), (I 0), (S [])] [(0, 1, (v (S [115, 99, 111, 112, 101]))), (1, 1, (v (I 3))), (2, 1, (v (I 0))), (3, 1, (v (I 0))), (4, 1, (v (I 0))), (5, 1, (v (S [])))]⟩, ⟨some 30, none, .build [(S []), (I 0), (I 0), (I 0), (I 0), (S [])] [(0, 1, (v (S [117, 110, 115, 99, 111, 112, 101]))), (1, 1, (v (I 0))), (2, 1, (v (I 0))), (3, 1, (v (I 0))), (4, 1, (v (I 0))), (5, 1, (v (S [])))]⟩, ⟨some 31, none, .build [(S []), (I 0), (I 0), (I 0), (I 0), (S [])] [(0, 1, (v (S [112, 105, 101, 99, 101, 115]))), (1, 1, (v (I 3))), (2, 1, (v (I 1))), (3, 1, (v (I 0))), (4, 1, (v (I 0))), (5, 1, (v (S [])))]⟩, ⟨some 32, none, .build [(S []), (I 0), (I 0), (I 0), (I 0), (S [])] [(0, 1, (v (S [112, 105, 101, 99, 101]))), (1, 1, (v (I 3))), (2, 1, (v (I 1))), (3, 1, (v (I 9))), (4, 1, (v (I 1))), (5, 1, (v (S [])))]⟩, ⟨some 33, none, .build [(S []), (I 0), (I 0), (I 0), (I 0), (S [])] [(0, 1, (v (S [105, 110, 112, 105, 101, 99, 101]))), (1, 1, (v (I 3))), (2, 1, (v (I 1))), (3, 1, (v (I 9))), (4, 1, (v (I 1))), (5, 1, (v (S [])))]⟩, ⟨some 34, none, .build [(S []), (I 0), (I 0), (I 0), (I 0), (S [])] [(0, 1, (v (S [111, 110, 99, 101, 108, 108]))), (1, 1, (v (I 4))), (2, 1, (v (I 1))), (3, 1, (v (I 2))), (4, 1, (v (I 0))), (5, 1, (v (S [114, 101, 97, 100, 70, 69, 32, 114, 101, 97, 100, 70, 70, 32, 114, 101, 97, 100, 88, 88, 32, 119, 114, 105, 116, 101, 69, 70, 32, 119, 114, 105, 116, 101, 70, 70, 32, 119, 114, 105, 116, 101, 88, 70, 32, 114, 101, 115, 101, 116, 32, 105, 115, 70, 117, 108, 108])))]⟩, ⟨some 35, none, .build [(S []), (I 0), (I 0), (I 0), (I 0), (S [])] [(0, 1, (v (S [111, 110, 97, 116, 111, 109]))), (1, 1, (v (I 4))), (2, 1, (v (I 1))), (3, 1, (v (I 0))), (4, 1, (v (I 0))), (5, 1, (v (S [114, 101, 97, 100, 32, 119, 114, 105, 116, 101, 32, 97, 100, 100, 32, 102, 101, 116, 99, 104, 65, 100, 100, 32, 101, 120, 99, 104, 97, 110, 103, 101, 32, 99, 111, 109, 112, 97, 114, 101, 65, 110, 100, 83, 119, 97, 112])))]⟩, ⟨some 36, none, .build [(S []), (I 0), (I 0), (I 0), (I 0), (S [])] [(0, 1, (v (S [119, 114, 105, 116, 101]))), (1, 1, (v (I 0))), (2, 1, (v (I 0))), (3, 1, (v (I 0))), (4, 1, (v (I 0))), (5, 1, (v (S [])))]⟩, ⟨some 37, none, .build [(S []), (I 0), (I 0), (I 0), (I 0), (S [])] [(0, 1, (v (S [97, 115, 115, 101, 114, 116]))), (1, 1, (v (I 1))), (2, 1, (v (I 0))), (3, 1, (v (I 0))), (4, 1, (v (I 0))), (5, 1, (v (S [])))]⟩, ⟨some 38, none, .build [(S []), (I 0), (I 0), (I 0), (I 0), (S []), (S []), (I 0), (I 0), (I 0), (I 0), (S []), (S []), (I 0), (I 0), (I 0), (I 0), (S []), (S []), (I 0), (I 0), (I 0), (I 0), (S []), (S []), (I 0), (I 0), (I 0), (I 0), (S []), (S []), (I 0), (I 0), (I 0), (I 0), (S []), (S []), (I 0), (I 0), (I 0), (I 0), (S []), (S []), (I 0), (I 0), (I 0), (I 0), (S []), (S []), (I 0), (I 0), (I 0), (I 0), (S []), (S []), (I 0), (I 0), (I 0), (I 0), (S []), (S []), (I 0), (I 0), (I 0), (I 0), (S []), (S []), (I 0), (I 0), (I 0), (I 0), (S []), (S []), (I 0), (I 0), (I 0), (I 0), (S []), (S []), (I 0), (I 0), (I 0), (I 0), (S []), (S []), (I 0), (I 0), (I 0), (I 0), (S []), (S []), (I 0), (I 0), (I 0), (I 0), (S []), (S []), (I 0), (I 0), (I 0), (I 0), (S []), (S []), (I 0), (I 0), (I 0), (I 0), (S []), (S []), (I 0), (I 0), (I 0), (I 0), (S []), (S []), (I 0), (I 0), (I 0), (I 0), (S []), (S []), (I 0), (I 0), (I 0), (I 0), (S []), (S []), (I 0), (I 0), (I 0), (I 0), (S []), (S []), (I 0), (I 0), (I 0), (I 0), (S []), (S []), (I 0), (I 0), (I 0), (I 0), (S []), (S []), (I 0), (I 0), (I 0), (I 0), (S []), (S []), (I 0), (I 0), (I 0), (I 0), (S []), (S []), (I 0), (I 0), (I 0), (I 0), (S []), (S []), (I 0), (I 0), (I 0), (I 0), (S []), (S []), (I 0), (I 0), (I 0), (I 0), (S []), (S []), (I 0), (I 0), (I 0), (I 0), (S []), (S []), (I 0), (I 0), (I 0), (I 0), (S []), (S []), (I 0), (I 0), (I 0), (I 0), (S []), (S []), (I 0), (I 0), (I 0), (I 0), (S []), (S []), (I 0), (I 0), (I 0), (I 0), (S []), (S []), (I 0), (I 0), (I 0), (I 0), (S []), (S []), (I 0), (I 0), (I 0), (I 0), (S []), (S []), (I 0), (I 0), (I 0), (I 0), (S []), (S []), (I 0), (I 0), (I 0), (I 0), (S [])] [(6, 6, (t 1)), (12, 6, (t 2)), (18, 6, (t 3)), (24, 6, (t 4)), (30, 6, (t 5)), (36, 6, (t 6)), (42, 6, (t 7)), (48, 6, (t 8)), (54, 6, (t 9)), (60, 6, (t 10)), (66, 6, (t 11)), (72, 6, (t 12)), (78, 6, (t 13)), (84, 6, (t 14)), (90, 6, (t 15)), (96, 6, (t 16)), (102, 6, (t 17)), (108, 6, (t 18)), (114, 6, (t 19)), (120, 6, (t 20)), (126, 6, (t 21)), (132, 6, (t 22)), (138, 6, (t 23)), (144, 6, (t 24)), (150, 6, (t 25)), (156, 6, (t 26)), (162, 6, (t 27)), (168, 6, (t 28)), (174, 6, (t 29)), (180, 6, (t 30)), (186, 6, (t 31)), (192, 6, (t 32)), (198, 6, (t 33)), (204, 6, (t 34)), (210, 6, (t 35)), (216, 6, (t 36)), (222, 6, (t 37))]⟩, ⟨none, none, .store 228 (t 0) (t 38)⟩]) .ret))⟩
def ir80 : IFunc := ⟨19, [.tmp 4], (.seq (.ops [⟨some 4, none, .mov (v (I 0))⟩]) (.seq (.seq (.ops [⟨some 6, none, .mov (t 0)⟩, ⟨some 7, none, .lenSl (t 6)⟩, ⟨some 8, none, .mov (v (I 0))⟩]) (.block 0 (.loop (.seq (.ops [⟨some 9, none, .arith .lss (t 8) (t 7)⟩]) (.seq (.cond (t 9) .skip (.exit 0)) (.seq (.block 1 (.seq (.ops [⟨some 10, none, .mov (t 8)⟩, ⟨some 5, none, .mov (t 10)⟩]) (.seq (.ops [⟨some 11, none, .mov (t 1)⟩, ⟨some 12, none, .mov (t 0)⟩, ⟨some 13, none, .mov (t 5)⟩, ⟨some 14, none, .indexAddr 1 (t 12) (t 13)⟩, ⟨some 15, none, .load none (t 14)⟩, ⟨some 16, none, .call (t 11) [(t 15)]⟩]) (.cond (t 16) (.seq (.ops [⟨some 17, none, .mov (t 5)⟩, ⟨some 4, none, .mov (t 17)⟩]) .ret) .skip)))) (.ops [⟨some 18, none, .arith .add (t 8) (v (I 1))⟩, ⟨some 8, none, .mov (t 18)⟩]))))))) (.seq (.ops [⟨some 4, none, .mov (v (I (-1)))⟩]) .ret)))⟩
def ir81 : IFunc := ⟨36, [.tmp 2], (.seq (.ops [⟨some 2, none, .mov (v (.bool false))⟩]) (.seq (.seq (.ops [⟨some 4, none, .mov (t 0)⟩, ⟨some 5, none, .lenStr (t 4)⟩, ⟨some 6, none, .arith .lss (t 5) (v (I 1))⟩, ⟨some 7, none, .mov (t 6)⟩, ⟨some 8, some (7, false), .mov (t 0)⟩, ⟨some 9, some (7, false), .lenStr (t 8)⟩, ⟨some 10, some (7, false), .arith .gtr (t 9) (v (I 60))⟩, ⟨some 11, none, .pick (t 7) (v (.bool true)) (t 10)⟩, ⟨some 12, none, .mov (t 11)⟩, ⟨some 13, some (12, false), .mov (t 0)⟩, ⟨some 14, some (12, false), .indexStr (t 13) (v (I 0))⟩, ⟨some 15, some (12, false), .arith .geq (t 14) (v (.int .u8 48))⟩, ⟨some 16, some (12, false), .mov (t 15)⟩, ⟨some 17, some (16, true), .mov (t 0)⟩, ⟨some 18, some (16, true), .indexStr (t 17) (v (I 0))⟩, ⟨some 19, some (16, true), .arith .leq (t 18) (v (.int .u8 57))⟩, ⟨some 20, some (12, false), .pick (t 16) (t 19) (v (.bool false))⟩, ⟨some 21, none, .pick (t 12) (v (.bool true)) (t 20)⟩]) (.cond (t 21) (.seq (.ops [⟨some 2, none, .mov (v (.bool false))⟩]) .ret) .skip)) (.seq (.seq (.ops [⟨some 3, none, .mov (v (I 0))⟩]) (.block 0 (.loop (.seq (.seq (.ops [⟨some 22, none, .mov (t 3)⟩, ⟨some 23, none, .mov (t 0)⟩, ⟨some 24, none, .lenStr (t 23)⟩, ⟨some 25, none, .arith .lss (t 22) (t 24)⟩]) (.cond (t 25) .skip (.exit 0))) (.seq (.block 1 (.seq (.ops [⟨some 28, none, .mov (t 0)⟩, ⟨some 29, none, .mov (t 3)⟩, ⟨some 30, none, .mov (t 3)⟩, ⟨some 31, none, .arith .add (t 30) (v (I 1))⟩, ⟨some 32, none, .sliceStr (t 28) (some (t 29)) (some (t 31))⟩, ⟨some 33, none, .arith .add (v (S [97])) (t 32)⟩, ⟨some 34, none, .call (v (Fn 96)) [(t 33)]⟩, ⟨some 35, none, .un .not (t 34)⟩]) (.cond (t 35) (.seq (.ops [⟨some 2, none, .mov (v (.bool false))⟩]) .ret) .skip))) (.ops [⟨some 26, none, .mov (t 3)⟩, ⟨some 27, none, .arith .add (t 26) (v (I 1))⟩, ⟨some 3, none, .mov (t 27)⟩])))))) (.seq (.ops [⟨some 2, none, .mov (v (.bool true))⟩]) .ret))))⟩
def ir82 : IFunc := ⟨150, [.tmp 6], (.seq (.ops [⟨some 3, none, .box 53 (t 0)⟩, ⟨some 4, none, .box 65 (t 1)⟩, ⟨some 5, none, .box 62 (t 2)⟩, ⟨some 6, none, .mov (v (.bool false))⟩]) (.seq (.seq (.ops [⟨some 13, none, .fieldAddr 0 (t 5)⟩, ⟨some 14, none, .load none (t 13)⟩, ⟨some 15, none, .arith .lss (t 14) (v (I 1))⟩, ⟨some 16, none, .mov (t 15)⟩, ⟨some 17, some (16, false), .fieldAddr 0 (t 5)⟩, ⟨some 18, some (16, false), .load none (t 17)⟩, ⟨some 19, some (16, false), .arith .gtr (t 18) (v (I 37))⟩, ⟨some 20, none, .pick (t 16) (v (.bool true)) (t 19)⟩]) (.cond (t 20) (.seq (.ops [⟨some 6, none, .mov (v (.bool false))⟩]) .ret) .skip)) (.seq (.ops [⟨some 21, none, .fieldAddr 0 (t 5)⟩, ⟨some 22, none, .load none (t 21)⟩, ⟨some 23, none, .call (v (Fn 83)) [(t 22)]⟩, ⟨some 7, none, .mov (t 23)⟩]) (.seq (.seq (.draw [⟨some 24, none, .load (some 2) (t 3)⟩, ⟨some 25, none, .load (some 4) (t 4)⟩, ⟨some 26, none, .mov (t 7)⟩, ⟨some 27, none, .indexStr (t 26) (v (I 0))⟩, ⟨some 28, none, .fieldAddr 1 (t 5)⟩, ⟨some 29, none, .load none (t 28)⟩, ⟨some 30, none, .call (v (Fn 97)) [(t 24), (t 25), (t 27), (t 29)]⟩, ⟨some 31, none, .un .not (t 30)⟩, ⟨some 32, none, .mov (t 31)⟩, ⟨some 33, some (32, false), .load (some 2) (t 3)⟩, ⟨some 34, some (32, false), .load (some 4) (t 4)⟩, ⟨some 35, some (32, false), .mov (t 7)⟩, ⟨some 36, some (32, false), .indexStr (t 35) (v (I 1))⟩, ⟨some 37, some (32, false), .fieldAddr 2 (t 5)⟩, ⟨some 38, some (32, false), .load none (t 37)⟩, ⟨some 39, some (32, false), .call (v (Fn 97)) [(t 33), (t 34), (t 36), (t 38)]⟩, ⟨some 40, some (32, false), .un .not (t 39)⟩, ⟨some 41, none, .pick (t 32) (v (.bool true)) (t 40)⟩, ⟨some 42, none, .mov (t 41)⟩, ⟨some 43, some (42, false), .load (some 2) (t 3)⟩, ⟨some 44, some (42, false), .load (some 4) (t 4)⟩, ⟨some 45, some (42, false), .mov (t 7)⟩, ⟨some 46, some (42, false), .indexStr (t 45) (v (I 2))⟩, ⟨some 47, some (42, false), .fieldAddr 3 (t 5)⟩, ⟨some 48, some (42, false), .load none (t 47)⟩, ⟨some 49, some (42, false), .call (v (Fn 97)) [(t 43), (t 44), (t 46), (t 48)]⟩, ⟨some 50, some (42, false), .un .not (t 49)⟩, ⟨some 51, none, .pick (t 42) (v (.bool true)) (t 50)⟩, ⟨some 52, none, .mov (t 51)⟩, ⟨some 53, some (52, false), .load (some 2) (t 3)⟩, ⟨some 54, some (52, false), .load (some 4) (t 4)⟩, ⟨some 55, some (52, false), .mov (t 7)⟩, ⟨some 56, some (52, false), .indexStr (t 55) (v (I 3))⟩, ⟨some 57, some (52, false), .fieldAddr 4 (t 5)⟩, ⟨some 58, some (52, false), .load none (t 57)⟩] [⟨some 59, some (52, false), .call (v (Fn 97)) [(t 53), (t 54), (t 56), (t 58)]⟩, ⟨some 60, some (52, false), .un .not (t 59)⟩, ⟨some 61, none, .pick (t 52) (v (.bool true)) (t 60)⟩]) (.cond (t 61) (.seq (.ops [⟨some 6, none, .mov (v (.bool false))⟩]) .ret) .skip)) (.seq (.seq (.ops [⟨some 8, none, .mov (v (I 0))⟩]) (.block 0 (.loop (.seq (.seq (.ops [⟨some 62, none, .mov (t 8)⟩, ⟨some 63, none, .fieldAddr 5 (t 5)⟩, ⟨some 64, none, .load none (t 63)⟩, ⟨some 65, none, .lenStr (t 64)⟩, ⟨some 66, none, .arith .lss (t 62) (t 65)⟩]) (.cond (t 66) .skip (.exit 0))) (.seq (.block 1 (.seq (.ops [⟨some 69, none, .fieldAddr 5 (t 5)⟩, ⟨some 70, none, .load none (t 69)⟩, ⟨some 71, none, .mov (t 8)⟩, ⟨some 72, none, .indexStr (t 70) (t 71)⟩, ⟨some 73, none, .arith .neq (t 72) (v (.int .u8 0))⟩, ⟨some 74, none, .mov (t 73)⟩, ⟨some 75, some (74, true), .fieldAddr 5 (t 5)⟩, ⟨some 76, some (74, true), .load none (t 75)⟩, ⟨some 77, some (74, true), .mov (t 8)⟩, ⟨some 78, some (74, true), .indexStr (t 76) (t 77)⟩, ⟨some 79, some (74, true), .arith .lss (t 78) (v (.int .u8 32))⟩, ⟨some 80, some (74, true), .mov (t 79)⟩, ⟨some 81, some (80, false), .fieldAddr 5 (t 5)⟩, ⟨some 82, some (80, false), .load none (t 81)⟩, ⟨some 83, some (80, false), .mov (t 8)⟩, ⟨some 84, some (80, false), .indexStr (t 82) (t 83)⟩, ⟨some 85, some (80, false), .arith .gtr (t 84) (v (.int .u8 126))⟩, ⟨some 86, some (74, true), .pick (t 80) (v (.bool true)) (t 85)⟩, ⟨some 87, none, .pick (t 74) (t 86) (v (.bool false))⟩]) (.cond (t 87) (.seq (.ops [⟨some 6, none, .mov (v (.bool false))⟩]) .ret) .skip))) (.ops [⟨some 67, none, .mov (t 8)⟩, ⟨some 68, none, .arith .add (t 67) (v (I 1))⟩, ⟨some 8, none, .mov (t 68)⟩])))))) (.seq (.seq (.ops [⟨some 88, none, .fieldAddr 0 (t 5)⟩, ⟨some 89, none, .load none (t 88)⟩, ⟨some 90, none, .call (v (Fn 98)) [(t 89)]⟩, ⟨some 9, none, .mov (t 90)⟩]) (.seq (.ops [⟨some 91, none, .fieldAddr 0 (t 5)⟩, ⟨some 92, none, .load none (t 91)⟩, ⟨some 93, none, .arith .neq (t 92) (v (I 36))⟩, ⟨some 94, none, .mov (t 93)⟩, ⟨some 95, some (94, true), .mov (t 9)⟩, ⟨some 96, some (94, true), .lenSl (t 95)⟩, ⟨some 97, some (94, true), .arith .eql (t 96) (v (I 0))⟩, ⟨some 98, some (94, true), .mov (t 97)⟩, ⟨some 99, some (98, true), .fieldAddr 5 (t 5)⟩, ⟨some 100, some (98, true), .load none (t 99)⟩, ⟨some 101, some (98, true), .arith .neq (t 100) (v (S []))⟩, ⟨some 102, some (94, true), .pick (t 98) (t 101) (v (.bool false))⟩, ⟨some 103, some (94, true), .mov (t 102)⟩, ⟨some 104, some (103, false), .mov (t 9)⟩, ⟨some 105, some (103, false), .lenSl (t 104)⟩, ⟨some 106, some (103, false), .arith .gtr (t 105) (v (I 0))⟩, ⟨some 107, some (103, false), .mov (t 106)⟩, ⟨some 108, some (107, true), .mov (t 9)⟩, ⟨some 109, some (107, true), .fieldAddr 5 (t 5)⟩, ⟨some 110, some (107, true), .load none (t 109)⟩, ⟨some 111, some (107, true), .call (v (Fn 84)) [(t 108), (t 110)]⟩, ⟨some 112, some (107, true), .un .not (t 111)⟩, ⟨some 113, some (103, false), .pick (t 107) (t 112) (v (.bool false))⟩, ⟨some 114, some (94, true), .pick (t 103) (v (.bool true)) (t 113)⟩, ⟨some 115, none, .pick (t 94) (t 114) (v (.bool false))⟩]) (.cond (t 115) (.seq (.ops [⟨some 6, none, .mov (v (.bool false))⟩]) .ret) .skip))) (.seq (.ops [⟨some 117, none, .load (some 2) (t 3)⟩, ⟨some 118, none, .load (some 7) (t 5)⟩, ⟨some 119, none, .call (v (Fn 99)) [(t 117), (t 118)]⟩, ⟨some 116, none, .mov (t 119)⟩, ⟨some 120, none, .extract (t 116) 0⟩, ⟨some 121, none, .extract (t 116) 1⟩, ⟨some 10, none, .mov (t 120)⟩, ⟨some 11, none, .mov (t 121)⟩]) (.seq (.seq (.ops [⟨some 122, none, .fieldAddr 6 (t 5)⟩, ⟨some 123, none, .load none (t 122)⟩, ⟨some 124, none, .lenSl (t 123)⟩, ⟨some 125, none, .mov (t 10)⟩, ⟨some 126, none, .arith .lss (t 124) (t 125)⟩, ⟨some 127, none, .mov (t 126)⟩, ⟨some 128, some (127, false), .fieldAddr 6 (t 5)⟩, ⟨some 129, some (127, false), .load none (t 128)⟩, ⟨some 130, some (127, false), .lenSl (t 129)⟩, ⟨some 131, some (127, false), .mov (t 11)⟩, ⟨some 132, some (127, false), .arith .gtr (t 130) (t 131)⟩, ⟨some 133, none, .pick (t 127) (v (.bool true)) (t 132)⟩]) (.cond (t 133) (.seq (.ops [⟨some 6, none, .mov (v (.bool false))⟩]) .ret) .skip)) (.seq (.seq (.ops [⟨some 12, none, .mov (v (I 0))⟩]) (.block 2 (.loop (.seq (.seq (.ops [⟨some 134, none, .mov (t 12)⟩, ⟨some 135, none, .fieldAddr 6 (t 5)⟩, ⟨some 136, none, .load none (t 135)⟩, ⟨some 137, none, .lenSl (t 136)⟩, ⟨some 138, none, .arith .lss (t 134) (t 137)⟩]) (.cond (t 138) .skip (.exit 2))) (.seq (.block 3 (.seq (.draw [⟨some 141, none, .load (some 2) (t 3)⟩, ⟨some 142, none, .load (some 4) (t 4)⟩, ⟨some 143, none, .fieldAddr 6 (t 5)⟩, ⟨some 144, none, .load none (t 143)⟩, ⟨some 145, none, .mov (t 12)⟩, ⟨some 146, none, .indexAddr 1 (t 144) (t 145)⟩, ⟨some 147, none, .load none (t 146)⟩] [⟨some 148, none, .call (v (Fn 97)) [(t 141), (t 142), (v (.int .u8 114)), (t 147)]⟩, ⟨some 149, none, .un .not (t 148)⟩]) (.cond (t 149) (.seq (.ops [⟨some 6, none, .mov (v (.bool false))⟩]) .ret) .skip))) (.ops [⟨some 139, none, .mov (t 12)⟩, ⟨some 140, none, .arith .add (t 139) (v (I 1))⟩, ⟨some 12, none, .mov (t 140)⟩])))))) (.seq (.ops [⟨some 6, none, .mov (v (.bool true))⟩]) .ret))))))))))⟩
def ir83 : IFunc := ⟨54, [.tmp 2], (.seq (.ops [⟨some 2, none, .mov (v (S []))⟩]) (.seq (.seq (.ops [⟨some 3, none, .mov (t 0)⟩]) (.block 0 (.seq (.ops [⟨some 5, none, .arith .eql (t 3) (v (I 1))⟩, ⟨some 4, none, .mov (t 5)⟩]) (.cond (t 4) (.seq (.ops [⟨some 2, none, .mov (v (S [114, 110, 48, 48]))⟩]) .ret) (.seq (.seq (.ops [⟨some 7, none, .arith .eql (t 3) (v (I 2))⟩, ⟨some 6, none, .mov (t 7)⟩]) (.cond (t 6) .skip (.seq (.ops [⟨some 8, none, .arith .eql (t 3) (v (I 3))⟩, ⟨some 6, none, .mov (t 8)⟩]) (.cond (t 6) .skip (.seq (.ops [⟨some 9, none, .arith .eql (t 3) (v (I 12))⟩, ⟨some 6, none, .mov (t 9)⟩]) (.cond (t 6) .skip (.seq (.ops [⟨some 10, none, .arith .eql (t 3) (v (I 15))⟩, ⟨some 6, none, .mov (t 10)⟩]) (.cond (t 6) .skip (.ops [⟨some 11, none, .arith .eql (t 3) (v (I 31))⟩, ⟨some 6, none, .mov (t 11)⟩]))))))))) (.cond (t 6) (.seq (.ops [⟨some 2, none, .mov (v (S [114, 114, 48, 48]))⟩]) .ret) (.seq (.seq (.ops [⟨some 13, none, .arith .eql (t 3) (v (I 4))⟩, ⟨some 12, none, .mov (t 13)⟩]) (.cond (t 12) .skip (.seq (.ops [⟨some 14, none, .arith .eql (t 3) (v (I 7))⟩, ⟨some 12, none, .mov (t 14)⟩]) (.cond (t 12) .skip (.seq (.ops [⟨some 15, none, .arith .eql (t 3) (v (I 8))⟩, ⟨some 12, none, .mov (t 15)⟩]) (.cond (t 12) .skip (.ops [⟨some 16, none, .arith .eql (t 3) (v (I 9))⟩, ⟨some 12, none, .mov (t 16)⟩]))))))) (.cond (t 12) (.seq (.ops [⟨some 2, none, .mov (v (S [114, 114, 114, 48]))⟩]) .ret) (.seq (.ops [⟨some 18, none, .arith .eql (t 3) (v (I 5))⟩, ⟨some 17, none, .mov (t 18)⟩]) (.cond (t 17) (.seq (.ops [⟨some 2, none, .mov (v (S [114, 103, 48, 48]))⟩]) .ret) (.seq (.ops [⟨some 20, none, .arith .eql (t 3) (v (I 6))⟩, ⟨some 19, none, .mov (t 20)⟩]) (.cond (t 19) (.seq (.ops [⟨some 2, none, .mov (v (S [103, 114, 48, 48]))⟩]) .ret) (.seq (.seq (.ops [⟨some 22, none, .arith .eql (t 3) (v (I 10))⟩, ⟨some 21, none, .mov (t 22)⟩]) (.cond (t 21) .skip (.seq (.ops [⟨some 23, none, .arith .eql (t 3) (v (I 13))⟩, ⟨some 21, none, .mov (t 23)⟩]) (.cond (t 21) .skip (.seq (.ops [⟨some 24, none, .arith .eql (t 3) (v (I 14))⟩, ⟨some 21, none, .mov (t 24)⟩]) (.cond (t 21) .skip (.seq (.ops [⟨some 25, none, .arith .eql (t 3) (v (I 23))⟩, ⟨some 21, none, .mov (t 25)⟩]) (.cond (t 21) .skip (.seq (.ops [⟨some 26, none, .arith .eql (t 3) (v (I 24))⟩, ⟨some 21, none, .mov (t 26)⟩]) (.cond (t 21) .skip (.seq (.ops [⟨some 27, none, .arith .eql (t 3) (v (I 26))⟩, ⟨some 21, none, .mov (t 27)⟩]) (.cond (t 21) .skip (.seq (.ops [⟨some 28, none, .arith .eql (t 3) (v (I 29))⟩, ⟨some 21, none, .mov (t 28)⟩]) (.cond (t 21) .skip (.seq (.ops [⟨some 29, none, .arith .eql (t 3) (v (I 25))⟩, ⟨some 21, none, .mov (t 29)⟩]) (.cond (t 21) .skip (.seq (.ops [⟨some 30, none, .arith .eql (t 3) (v (I 28))⟩, ⟨some 21, none, .mov (t 30)⟩]) (.cond (t 21) .skip (.ops [⟨some 31, none, .arith .eql (t 3) (v (I 37))⟩, ⟨some 21, none, .mov (t 31)⟩]))))))))))))))))))) (.cond (t 21) (.seq (.ops [⟨some 2, none, .mov (v (S [114, 48, 48, 48]))⟩]) .ret) (.seq (.ops [⟨some 33, none, .arith .eql (t 3) (v (I 11))⟩, ⟨some 32, none, .mov (t 33)⟩]) (.cond (t 32) (.seq (.ops [⟨some 2, none, .mov (v (S [114, 114, 107, 82]))⟩]) .ret) (.seq (.seq (.ops [⟨some 35, none, .arith .eql (t 3) (v (I 16))⟩, ⟨some 34, none, .mov (t 35)⟩]) (.cond (t 34) .skip (.seq (.ops [⟨some 36, none, .arith .eql (t 3) (v (I 32))⟩, ⟨some 34, none, .mov (t 36)⟩]) (.cond (t 34) .skip (.ops [⟨some 37, none, .arith .eql (t 3) (v (I 33))⟩, ⟨some 34, none, .mov (t 37)⟩]))))) (.cond (t 34) (.seq (.ops [⟨some 2, none, .mov (v (S [114, 114, 100, 114]))⟩]) .ret) (.seq (.seq (.ops [⟨some 39, none, .arith .eql (t 3) (v (I 17))⟩, ⟨some 38, none, .mov (t 39)⟩]) (.cond (t 38) .skip (.ops [⟨some 40, none, .arith .eql (t 3) (v (I 18))⟩, ⟨some 38, none, .mov (t 40)⟩]))) (.cond (t 38) (.seq (.ops [⟨some 2, none, .mov (v (S [114, 114, 48, 48]))⟩]) .ret) (.seq (.ops [⟨some 42, none, .arith .eql (t 3) (v (I 19))⟩, ⟨some 41, none, .mov (t 42)⟩]) (.cond (t 41) (.seq (.ops [⟨some 2, none, .mov (v (S [48, 48, 112, 48]))⟩]) .ret) (.seq (.ops [⟨some 44, none, .arith .eql (t 3) (v (I 20))⟩, ⟨some 43, none, .mov (t 44)⟩]) (.cond (t 43) (.seq (.ops [⟨some 2, none, .mov (v (S [114, 48, 112, 48]))⟩]) .ret) (.seq (.seq (.ops [⟨some 46, none, .arith .eql (t 3) (v (I 21))⟩, ⟨some 45, none, .mov (t 46)⟩]) (.cond (t 45) .skip (.ops [⟨some 47, none, .arith .eql (t 3) (v (I 27))⟩, ⟨some 45, none, .mov (t 47)⟩]))) (.cond (t 45) (.seq (.ops [⟨some 2, none, .mov (v (S [82, 98, 48, 48]))⟩]) .ret) (.seq (.ops [⟨some 49, none, .arith .eql (t 3) (v (I 22))⟩, ⟨some 48, none, .mov (t 49)⟩]) (.cond (t 48) (.seq (.ops [⟨some 2, none, .mov (v (S [82, 48, 48, 48]))⟩]) .ret) (.seq (.ops [⟨some 51, none, .arith .eql (t 3) (v (I 34))⟩, ⟨some 50, none, .mov (t 51)⟩]) (.cond (t 50) (.seq (.ops [⟨some 2, none, .mov (v (S [82, 114, 82, 48]))⟩]) .ret) (.seq (.ops [⟨some 53, none, .arith .eql (t 3) (v (I 35))⟩, ⟨some 52, none, .mov (t 53)⟩]) (.cond (t 52) (.seq (.ops [⟨some 2, none, .mov (v (S [82, 114, 48, 48]))⟩]) .ret) .skip)))))))))))))))))))))))))))))))) (.seq (.ops [⟨some 2, none, .mov (v (S [48, 48, 48, 48]))⟩]) .ret)))⟩
def ir84 : IFunc := ⟨18, [.tmp 4], (.seq (.ops [⟨some 4, none, .mov (v (.bool false))⟩]) (.seq (.seq (.ops [⟨some 5, none, .mov (v (I 0))⟩]) (.block 0 (.loop (.seq (.seq (.ops [⟨some 6, none, .mov (t 5)⟩, ⟨some 7, none, .mov (t 0)⟩, ⟨some 8, none, .lenSl (t 7)⟩, ⟨some 9, none, .arith .lss (t 6) (t 8)⟩]) (.cond (t 9) .skip (.exit 0))) (.seq (.block 1 (.seq (.ops [⟨some 12, none, .mov (t 0)⟩, ⟨some 13, none, .mov (t 5)⟩, ⟨some 14, none, .indexAddr 1 (t 12) (t 13)⟩, ⟨some 15, none, .load none (t 14)⟩, ⟨some 16, none, .mov (t 1)⟩, ⟨some 17, none, .arith .eql (t 15) (t 16)⟩]) (.cond (t 17) (.seq (.ops [⟨some 4, none, .mov (v (.bool true))⟩]) .ret) .skip))) (.ops [⟨some 10, none, .mov (t 5)⟩, ⟨some 11, none, .arith .add (t 10) (v (I 1))⟩, ⟨some 5, none, .mov (t 11)⟩])))))) (.seq (.ops [⟨some 4, none, .mov (v (.bool false))⟩]) .ret)))⟩
def ir85 : IFunc := ⟨2, [.tmp 0], (.seq (.ops [⟨some 0, none, .mov (v (.slice none 0 0))⟩]) (.seq (.ops [⟨some 1, none, .buildSlice 9 38 [(S []), (S []), (S []), (S []), (S []), (S []), (S []), (S []), (S []), (S []), (S []), (S []), (S []), (S []), (S []), (S []), (S []), (S []), (S []), (S []), (S []), (S []), (S []), (S []), (S []), (S []), (S []), (S []), (S []), (S []), (S []), (S []), (S []), (S []), (S []), (S []), (S []), (S [])] [(0, 1, (v (S []))), (1, 1, (v (S [115, 101, 116]))), (2, 1, (v (S [99, 111, 112, 121]))), (3, 1, (v (S [117, 110, 97, 114, 121]))), (4, 1, (v (S [98, 105, 110, 97, 114, 121]))), (5, 1, (v (S [103, 101, 116]))), (6, 1, (v (S [112, 117, 116]))), (7, 1, (v (S [114, 97, 110, 103, 101]))), (8, 1, (v (S [98, 121]))), (9, 1, (v (S [99, 111, 117, 110, 116]))), (10, 1, (v (S [100, 111, 109, 97, 105, 110]))), (11, 1, (v (S [109, 97, 112]))), (12, 1, (v (S [97, 114, 114, 97, 121]))), (13, 1, (v (S [99, 101, 108, 108]))), (14, 1, (v (S [97, 116, 111, 109, 105, 99]))), (15, 1, (v (S [102, 105, 101, 108, 100]))), (16, 1, (v (S [110, 116, 104]))), (17, 1, (v (S [108, 111, 97, 100]))), (18, 1, (v (S [115, 116, 111, 114, 101]))), (19, 1, (v (S [106, 117, 109, 112]))), (20, 1, (v (S [105, 102]))), (21, 1, (v (S [99, 97, 108, 108]))), (22, 1, (v (S [114, 101, 116, 117, 114, 110]))), (23, 1, (v (S [104, 101, 114, 101]))), (24, 1, (v (S [108, 111, 99, 97, 108, 101, 115]))), (25, 1, (v (S [103, 111]))), (26, 1, (v (S [99, 111, 117, 110, 116, 101, 114]))), (27, 1, (v (S [115, 112, 97, 119, 110]))), (28, 1, (v (S [119, 97, 105, 116]))), (29, 1, (v (S [115, 99, 111, 112, 101]))), (30, 1, (v (S [117, 110, 115, 99, 111, 112, 101]))), (31, 1, (v (S [112, 105, 101, 99, 101, 115]))), (32, 1, (v (S [112, 105, 101, 99, 101]))), (33, 1, (v (S [105, 110, 112, 105, 101, 99, 101]))), (34, 1, (v (S [111, 110, 99, 101, 108, 108]))), (35, 1, (v (S [111, 110, 97, 116, 111, 109]))), (36, 1, (v (S [119, 114, 105, 116, 101]))), (37, 1, (v (S [97, 115, 115, 101, 114, 116])))]⟩, ⟨some 0, none, .mov (t 1)⟩]) .ret))⟩
def ir86 : IFunc := ⟨19, [.tmp 4], (.seq (.ops [⟨some 4, none, .mov (v (I 0))⟩]) (.seq (.seq (.ops [⟨some 6, none, .mov (t 0)⟩, ⟨some 7, none, .lenSl (t 6)⟩, ⟨some 8, none, .mov (v (I 0))⟩]) (.block 0 (.loop (.seq (.ops [⟨some 9, none, .arith .lss (t 8) (t 7)⟩]) (.seq (.cond (t 9) .skip (.exit 0)) (.seq (.block 1 (.seq (.ops [⟨some 10, none, .mov (t 8)⟩, ⟨some 5, none, .mov (t 10)⟩]) (.seq (.ops [⟨some 11, none, .mov (t 1)⟩, ⟨some 12, none, .mov (t 0)⟩, ⟨some 13, none, .mov (t 5)⟩, ⟨some 14, none, .indexAddr 4 (t 12) (t 13)⟩, ⟨some 15, none, .load (some 4) (t 14)⟩, ⟨some 16, none, .call (t 11) [(t 15)]⟩]) (.cond (t 16) (.seq (.ops [⟨some 17, none, .mov (t 5)⟩, ⟨some 4, none, .mov (t 17)⟩]) .ret) .skip)))) (.ops [⟨some 18, none, .arith .add (t 8) (v (I 1))⟩, ⟨some 8, none, .mov (t 18)⟩]))))))) (.seq (.ops [⟨some 4, none, .mov (v (I (-1)))⟩]) .ret)))⟩
def ir87 : IFunc := ⟨9, [.tmp 4], (.seq (.ops [⟨some 4, none, .mov (v (.bool false))⟩]) (.seq (.ops [⟨some 5, none, .mov (t 0)⟩, ⟨some 6, none, .mov (t 1)⟩, ⟨some 7, none, .call (v (Fn 100)) [(t 5), (t 6)]⟩, ⟨some 8, none, .arith .geq (t 7) (v (I 0))⟩, ⟨some 4, none, .mov (t 8)⟩]) .ret))⟩
def ir88 : IFunc := ⟨29, [.tmp 2], (.seq (.ops [⟨some 2, none, .mov (v (.bool false))⟩]) (.seq (.ops [⟨some 3, none, .mov (t 0)⟩, ⟨some 4, none, .arith .neq (t 3) (v (.int .i32 95))⟩, ⟨some 5, none, .mov (t 4)⟩, ⟨some 6, some (5, true), .mov (t 0)⟩, ⟨some 7, some (5, true), .arith .lss (t 6) (v (.int .i32 48))⟩, ⟨some 8, some (5, true), .mov (t 7)⟩, ⟨some 9, some (8, false), .mov (t 0)⟩, ⟨some 10, some (8, false), .arith .gtr (t 9) (v (.int .i32 57))⟩, ⟨some 11, some (5, true), .pick (t 8) (v (.bool true)) (t 10)⟩, ⟨some 12, none, .pick (t 5) (t 11) (v (.bool false))⟩, ⟨some 13, none, .mov (t 12)⟩, ⟨some 14, some (13, true), .mov (t 0)⟩, ⟨some 15, some (13, true), .arith .lss (t 14) (v (.int .i32 97))⟩, ⟨some 16, some (13, true), .mov (t 15)⟩, ⟨some 17, some (16, false), .mov (t 0)⟩, ⟨some 18, some (16, false), .arith .gtr (t 17) (v (.int .i32 122))⟩, ⟨some 19, some (13, true), .pick (t 16) (v (.bool true)) (t 18)⟩, ⟨some 20, none, .pick (t 13) (t 19) (v (.bool false))⟩, ⟨some 21, none, .mov (t 20)⟩, ⟨some 22, some (21, true), .mov (t 0)⟩, ⟨some 23, some (21, true), .arith .lss (t 22) (v (.int .i32 65))⟩, ⟨some 24, some (21, true), .mov (t 23)⟩, ⟨some 25, some (24, false), .mov (t 0)⟩, ⟨some 26, some (24, false), .arith .gtr (t 25) (v (.int .i32 90))⟩, ⟨some 27, some (21, true), .pick (t 24) (v (.bool true)) (t 26)⟩, ⟨some 28, none, .pick (t 21) (t 27) (v (.bool false))⟩, ⟨some 2, none, .mov (t 28)⟩]) .ret))⟩
def ir89 : IFunc := ⟨19, [.tmp 4], (.seq (.ops [⟨some 4, none, .mov (v (I 0))⟩]) (.seq (.seq (.ops [⟨some 6, none, .mov (t 0)⟩, ⟨some 7, none, .lenSl (t 6)⟩, ⟨some 8, none, .mov (v (I 0))⟩]) (.block 0 (.loop (.seq (.ops [⟨some 9, none, .arith .lss (t 8) (t 7)⟩]) (.seq (.cond (t 9) .skip (.exit 0)) (.seq (.block 1 (.seq (.ops [⟨some 10, none, .mov (t 8)⟩, ⟨some 5, none, .mov (t 10)⟩]) (.seq (.ops [⟨some 11, none, .mov (t 1)⟩, ⟨some 12, none, .mov (t 0)⟩, ⟨some 13, none, .mov (t 5)⟩, ⟨some 14, none, .indexAddr 7 (t 12) (t 13)⟩, ⟨some 15, none, .load (some 7) (t 14)⟩, ⟨some 16, none, .call (t 11) [(t 15)]⟩]) (.cond (t 16) (.seq (.ops [⟨some 17, none, .mov (t 5)⟩, ⟨some 4, none, .mov (t 17)⟩]) .ret) .skip)))) (.ops [⟨some 18, none, .arith .add (t 8) (v (I 1))⟩, ⟨some 8, none, .mov (t 18)⟩]))))))) (.seq (.ops [⟨some 4, none, .mov (v (I (-1)))⟩]) .ret)))⟩
def ir90 : IFunc := ⟨84, [.tmp 8], (.seq (.ops [⟨some 4, none, .box 53 (t 0)⟩, ⟨some 5, none, .box 65 (t 1)⟩, ⟨some 8, none, .mov (v (.bool false))⟩]) (.seq (.seq (.ops [⟨some 9, none, .mov (t 2)⟩]) (.block 0 (.seq (.ops [⟨some 11, none, .arith .eql (t 9) (v (I 0))⟩, ⟨some 10, none, .mov (t 11)⟩]) (.cond (t 10) (.seq (.ops [⟨some 12, none, .mov (t 3)⟩, ⟨some 13, none, .arith .eql (t 12) (v (I 0))⟩, ⟨some 8, none, .mov (t 13)⟩]) .ret) (.seq (.seq (.ops [⟨some 15, none, .arith .eql (t 9) (v (I 1))⟩, ⟨some 14, none, .mov (t 15)⟩]) (.cond (t 14) .skip (.ops [⟨some 16, none, .arith .eql (t 9) (v (I 3))⟩, ⟨some 14, none, .mov (t 16)⟩]))) (.cond (t 14) (.seq (.ops [⟨some 17, none, .mov (t 3)⟩, ⟨some 18, none, .arith .geq (t 17) (v (I 0))⟩, ⟨some 19, none, .mov (t 18)⟩, ⟨some 20, some (19, true), .mov (t 3)⟩, ⟨some 21, some (19, true), .fieldAddr 1 (t 5)⟩, ⟨some 22, some (19, true), .load none (t 21)⟩, ⟨some 23, some (19, true), .arith .lss (t 20) (t 22)⟩, ⟨some 24, none, .pick (t 19) (t 23) (v (.bool false))⟩, ⟨some 8, none, .mov (t 24)⟩]) .ret) (.seq (.seq (.ops [⟨some 26, none, .arith .eql (t 9) (v (I 2))⟩, ⟨some 25, none, .mov (t 26)⟩]) (.cond (t 25) .skip (.ops [⟨some 27, none, .arith .eql (t 9) (v (I 4))⟩, ⟨some 25, none, .mov (t 27)⟩]))) (.cond (t 25) (.seq (.ops [⟨some 28, none, .mov (t 3)⟩, ⟨some 29, none, .arith .geq (t 28) (v (I (-1)))⟩, ⟨some 30, none, .mov (t 29)⟩, ⟨some 31, some (30, true), .mov (t 3)⟩, ⟨some 32, some (30, true), .fieldAddr 1 (t 5)⟩, ⟨some 33, some (30, true), .load none (t 32)⟩, ⟨some 34, some (30, true), .arith .lss (t 31) (t 33)⟩, ⟨some 35, none, .pick (t 30) (t 34) (v (.bool false))⟩, ⟨some 8, none, .mov (t 35)⟩]) .ret) (.seq (.ops [⟨some 37, none, .arith .eql (t 9) (v (I 6))⟩, ⟨some 36, none, .mov (t 37)⟩]) (.cond (t 36) (.seq (.ops [⟨some 38, none, .mov (t 3)⟩, ⟨some 39, none, .arith .geq (t 38) (v (I 0))⟩, ⟨some 40, none, .mov (t 39)⟩, ⟨some 41, some (40, true), .mov (t 3)⟩, ⟨some 42, some (40, true), .fieldAddr 0 (t 4)⟩, ⟨some 43, some (40, true), .load none (t 42)⟩, ⟨some 44, some (40, true), .arith .lss (t 41) (t 43)⟩, ⟨some 45, none, .pick (t 40) (t 44) (v (.bool false))⟩, ⟨some 8, none, .mov (t 45)⟩]) .ret) (.seq (.ops [⟨some 47, none, .arith .eql (t 9) (v (I 7))⟩, ⟨some 46, none, .mov (t 47)⟩]) (.cond (t 46) (.seq (.ops [⟨some 48, none, .mov (t 3)⟩, ⟨some 49, none, .arith .geq (t 48) (v (I 0))⟩, ⟨some 50, none, .mov (t 49)⟩, ⟨some 51, some (50, true), .mov (t 3)⟩, ⟨some 52, some (50, true), .fieldAddr 3 (t 5)⟩, ⟨some 53, some (50, true), .load none (t 52)⟩, ⟨some 54, some (50, true), .lenSl (t 53)⟩, ⟨some 55, some (50, true), .arith .lss (t 51) (t 54)⟩, ⟨some 56, none, .pick (t 50) (t 55) (v (.bool false))⟩, ⟨some 8, none, .mov (t 56)⟩]) .ret) (.seq (.ops [⟨some 58, none, .arith .eql (t 9) (v (I 8))⟩, ⟨some 57, none, .mov (t 58)⟩]) (.cond (t 57) (.seq (.ops [⟨some 59, none, .mov (t 3)⟩, ⟨some 60, none, .arith .geq (t 59) (v (I 0))⟩, ⟨some 61, none, .mov (t 60)⟩, ⟨some 62, some (61, true), .mov (t 3)⟩, ⟨some 63, some (61, true), .fieldAddr 1 (t 4)⟩, ⟨some 64, some (61, true), .load none (t 63)⟩, ⟨some 65, some (61, true), .lenSl (t 64)⟩, ⟨some 66, some (61, true), .arith .lss (t 62) (t 65)⟩, ⟨some 67, none, .pick (t 61) (t 66) (v (.bool false))⟩, ⟨some 8, none, .mov (t 67)⟩]) .ret) (.seq (.ops [⟨some 69, none, .arith .eql (t 9) (v (I 9))⟩, ⟨some 68, none, .mov (t 69)⟩]) (.cond (t 68) (.seq (.ops [⟨some 70, none, .mov (t 3)⟩, ⟨some 71, none, .arith .eql (t 70) (v (I 0))⟩, ⟨some 72, none, .mov (t 71)⟩, ⟨some 73, some (72, false), .mov (t 3)⟩, ⟨some 74, some (72, false), .arith .eql (t 73) (v (I 1))⟩, ⟨some 75, none, .pick (t 72) (v (.bool true)) (t 74)⟩, ⟨some 8, none, .mov (t 75)⟩]) .ret) (.seq (.ops [⟨some 77, none, .arith .eql (t 9) (v (I 10))⟩, ⟨some 76, none, .mov (t 77)⟩]) (.cond (t 76) (.seq (.ops [⟨some 78, none, .mov (t 3)⟩, ⟨some 79, none, .arith .geq (t 78) (v (I 1))⟩, ⟨some 80, none, .mov (t 79)⟩, ⟨some 81, some (80, true), .mov (t 3)⟩, ⟨some 82, some (80, true), .arith .leq (t 81) (v (I 4))⟩, ⟨some 83, none, .pick (t 80) (t 82) (v (.bool false))⟩, ⟨some 8, none, .mov (t 83)⟩]) .ret) .skip)))))))))))))))))) (.seq (.ops [⟨some 8, none, .mov (v (.bool true))⟩]) .ret)))⟩
def ir91 : IFunc := ⟨9, [.tmp 4], (.seq (.ops [⟨some 4, none, .mov (v (.bool false))⟩]) (.seq (.ops [⟨some 5, none, .mov (t 0)⟩, ⟨some 6, none, .mov (t 1)⟩, ⟨some 7, none, .call (v (Fn 101)) [(t 5), (t 6)]⟩, ⟨some 8, none, .arith .geq (t 7) (v (I 0))⟩, ⟨some 4, none, .mov (t 8)⟩]) .ret))⟩
def ir92 : IFunc := ⟨106, [.tmp 2], (.seq (.ops [⟨some 2, none, .mov (v (.slice none 0 0))⟩]) (.seq (.ops [⟨some 3, none, .mov (v (I 0))⟩]) (.seq (.ops [⟨some 4, none, .mov (v (I 1))⟩]) (.seq (.ops [⟨some 5, none, .mov (v (.int .u8 0))⟩]) (.seq (.seq (.ops [⟨some 6, none, .mov (v (I 0))⟩]) (.block 0 (.loop (.seq (.seq (.ops [⟨some 13, none, .mov (t 6)⟩, ⟨some 14, none, .mov (t 0)⟩, ⟨some 15, none, .lenStr (t 14)⟩, ⟨some 16, none, .arith .lss (t 13) (t 15)⟩]) (.cond (t 16) .skip (.exit 0))) (.seq (.block 1 (.seq (.ops [⟨some 19, none, .mov (t 0)⟩, ⟨some 20, none, .mov (t 6)⟩, ⟨some 21, none, .indexStr (t 19) (t 20)⟩, ⟨some 7, none, .mov (t 21)⟩]) (.seq (.ops [⟨some 22, none, .mov (t 5)⟩, ⟨some 23, none, .mov (t 7)⟩, ⟨some 24, none, .arith .or (t 22) (t 23)⟩, ⟨some 5, none, .mov (t 24)⟩]) (.seq (.ops [⟨some 25, none, .mov (t 7)⟩, ⟨some 26, none, .indexAddrArr 256 1 (v (.pointer (some ⟨1, 0, none⟩))) (t 25)⟩, ⟨some 27, none, .load none (t 26)⟩, ⟨some 28, none, .toInt .i64 (t 27)⟩, ⟨some 8, none, .mov (t 28)⟩]) (.seq (.ops [⟨some 29, none, .mov (t 3)⟩, ⟨some 30, none, .mov (t 4)⟩, ⟨some 31, none, .mov (t 8)⟩, ⟨some 32, none, .un .xor (t 31)⟩, ⟨some 33, none, .arith .and (t 30) (t 32)⟩, ⟨some 34, none, .arith .add (t 29) (t 33)⟩, ⟨some 3, none, .mov (t 34)⟩]) (.ops [⟨some 35, none, .mov (t 8)⟩, ⟨some 4, none, .mov (t 35)⟩])))))) (.ops [⟨some 17, none, .mov (t 6)⟩, ⟨some 18, none, .arith .add (t 17) (v (I 1))⟩, ⟨some 6, none, .mov (t 18)⟩])))))) (.seq (.seq (.ops [⟨some 36, none, .mov (t 5)⟩, ⟨some 37, none, .arith .geq (t 36) (v (.int .u8 128))⟩]) (.cond (t 37) (.seq (.ops [⟨some 38, none, .mov (t 0)⟩, ⟨some 39, none, .call (v (Fn 102)) [(t 38), (v (Fn 103))]⟩, ⟨some 2, none, .mov (t 39)⟩]) .ret) .skip)) (.seq (.ops [⟨some 40, none, .mov (t 3)⟩, ⟨some 41, none, .makeSlice 9 16 [(S [])] (t 40) (t 40)⟩, ⟨some 9, none, .mov (t 41)⟩]) (.seq (.ops [⟨some 10, none, .mov (v (I 0))⟩]) (.seq (.ops [⟨some 11, none, .mov (v (I 0))⟩]) (.seq (.ops [⟨some 12, none, .mov (v (I 0))⟩]) (.seq (.block 2 (.loop (.seq (.seq (.ops [⟨some 42, none, .mov (t 12)⟩, ⟨some 43, none, .mov (t 0)⟩, ⟨some 44, none, .lenStr (t 43)⟩, ⟨some 45, none, .arith .lss (t 42) (t 44)⟩, ⟨some 46, none, .mov (t 45)⟩, ⟨some 47, some (46, true), .mov (t 0)⟩, ⟨some 48, some (46, true), .mov (t 12)⟩, ⟨some 49, some (46, true), .indexStr (t 47) (t 48)⟩, ⟨some 50, some (46, true), .indexAddrArr 256 1 (v (.pointer (some ⟨1, 0, none⟩))) (t 49)⟩, ⟨some 51, some (46, true), .load none (t 50)⟩, ⟨some 52, some (46, true), .arith .neq (t 51) (v (.int .u8 0))⟩, ⟨some 53, none, .pick (t 46) (t 52) (v (.bool false))⟩]) (.cond (t 53) .skip (.exit 2))) (.block 3 (.ops [⟨some 54, none, .mov (t 12)⟩, ⟨some 55, none, .arith .add (t 54) (v (I 1))⟩, ⟨some 12, none, .mov (t 55)⟩]))))) (.seq (.ops [⟨some 56, none, .mov (t 12)⟩, ⟨some 11, none, .mov (t 56)⟩]) (.seq (.block 4 (.loop (.seq (.seq (.ops [⟨some 57, none, .mov (t 12)⟩, ⟨some 58, none, .mov (t 0)⟩, ⟨some 59, none, .lenStr (t 58)⟩, ⟨some 60, none, .arith .lss (t 57) (t 59)⟩]) (.cond (t 60) .skip (.exit 4))) (.block 5 (.seq (.seq (.ops [⟨some 61, none, .mov (t 0)⟩, ⟨some 62, none, .mov (t 12)⟩, ⟨some 63, none, .indexStr (t 61) (t 62)⟩, ⟨some 64, none, .indexAddrArr 256 1 (v (.pointer (some ⟨1, 0, none⟩))) (t 63)⟩, ⟨some 65, none, .load none (t 64)⟩, ⟨some 66, none, .arith .eql (t 65) (v (.int .u8 0))⟩]) (.cond (t 66) (.seq (.ops [⟨some 67, none, .mov (t 12)⟩, ⟨some 68, none, .arith .add (t 67) (v (I 1))⟩, ⟨some 12, none, .mov (t 68)⟩]) (.exit 5)) .skip)) (.seq (.ops [⟨some 69, none, .mov (t 9)⟩, ⟨some 70, none, .mov (t 10)⟩, ⟨some 71, none, .mov (t 0)⟩, ⟨some 72, none, .mov (t 11)⟩, ⟨some 73, none, .mov (t 12)⟩, ⟨some 74, none, .sliceStr (t 71) (some (t 72)) (some (t 73))⟩, ⟨some 75, none, .indexAddr 1 (t 69) (t 70)⟩, ⟨none, none, .store 1 (t 75) (t 74)⟩]) (.seq (.ops [⟨some 76, none, .mov (t 10)⟩, ⟨some 77, none, .arith .add (t 76) (v (I 1))⟩, ⟨some 10, none, .mov (t 77)⟩]) (.seq (.ops [⟨some 78, none, .mov (t 12)⟩, ⟨some 79, none, .arith .add (t 78) (v (I 1))⟩, ⟨some 12, none, .mov (t 79)⟩]) (.seq (.block 6 (.loop (.seq (.seq (.ops [⟨some 80, none, .mov (t 12)⟩, ⟨some 81, none, .mov (t 0)⟩, ⟨some 82, none, .lenStr (t 81)⟩, ⟨some 83, none, .arith .lss (t 80) (t 82)⟩, ⟨some 84, none, .mov (t 83)⟩, ⟨some 85, some (84, true), .mov (t 0)⟩, ⟨some 86, some (84, true), .mov (t 12)⟩, ⟨some 87, some (84, true), .indexStr (t 85) (t 86)⟩, ⟨some 88, some (84, true), .indexAddrArr 256 1 (v (.pointer (some ⟨1, 0, none⟩))) (t 87)⟩, ⟨some 89, some (84, true), .load none (t 88)⟩, ⟨some 90, some (84, true), .arith .neq (t 89) (v (.int .u8 0))⟩, ⟨some 91, none, .pick (t 84) (t 90) (v (.bool false))⟩]) (.cond (t 91) .skip (.exit 6))) (.block 7 (.ops [⟨some 92, none, .mov (t 12)⟩, ⟨some 93, none, .arith .add (t 92) (v (I 1))⟩, ⟨some 12, none, .mov (t 93)⟩]))))) (.ops [⟨some 94, none, .mov (t 12)⟩, ⟨some 11, none, .mov (t 94)⟩])))))))))) (.seq (.seq (.ops [⟨some 95, none, .mov (t 11)⟩, ⟨some 96, none, .mov (t 0)⟩, ⟨some 97, none, .lenStr (t 96)⟩, ⟨some 98, none, .arith .lss (t 95) (t 97)⟩]) (.cond (t 98) (.ops [⟨some 99, none, .mov (t 9)⟩, ⟨some 100, none, .mov (t 10)⟩, ⟨some 101, none, .mov (t 0)⟩, ⟨some 102, none, .mov (t 11)⟩, ⟨some 103, none, .sliceStr (t 101) (some (t 102)) none⟩, ⟨some 104, none, .indexAddr 1 (t 99) (t 100)⟩, ⟨none, none, .store 1 (t 104) (t 103)⟩]) .skip)) (.seq (.ops [⟨some 105, none, .mov (t 9)⟩, ⟨some 2, none, .mov (t 105)⟩]) .ret)))))))))))))))⟩
def ir93 : IFunc := ⟨43, [.tmp 4, .tmp 5], (.seq (.ops [⟨some 2, none, .box 53 (t 0)⟩, ⟨some 3, none, .box 62 (t 1)⟩, ⟨some 4, none, .mov (v (I 0))⟩, ⟨some 5, none, .mov (v (I 0))⟩]) (.seq (.seq (.ops [⟨some 8, none, .fieldAddr 0 (t 3)⟩, ⟨some 9, none, .load none (t 8)⟩]) (.block 0 (.seq (.seq (.ops [⟨some 11, none, .arith .eql (t 9) (v (I 10))⟩, ⟨some 10, none, .mov (t 11)⟩]) (.cond (t 10) .skip (.seq (.ops [⟨some 12, none, .arith .eql (t 9) (v (I 17))⟩, ⟨some 10, none, .mov (t 12)⟩]) (.cond (t 10) .skip (.ops [⟨some 13, none, .arith .eql (t 9) (v (I 18))⟩, ⟨some 10, none, .mov (t 13)⟩]))))) (.cond (t 10) (.seq (.ops [⟨some 4, none, .mov (v (I 1))⟩, ⟨some 5, none, .mov (v (I 2))⟩]) .ret) (.seq (.seq (.ops [⟨some 15, none, .arith .eql (t 9) (v (I 21))⟩, ⟨some 14, none, .mov (t 15)⟩]) (.cond (t 14) .skip (.ops [⟨some 16, none, .arith .eql (t 9) (v (I 27))⟩, ⟨some 14, none, .mov (t 16)⟩]))) (.cond (t 14) (.seq (.ops [⟨some 17, none, .fieldAddr 1 (t 2)⟩, ⟨some 18, none, .load none (t 17)⟩, ⟨some 19, none, .fieldAddr 2 (t 3)⟩, ⟨some 20, none, .load none (t 19)⟩, ⟨some 21, none, .indexAddr 4 (t 18) (t 20)⟩, ⟨some 22, none, .fieldAddr 2 (t 21)⟩, ⟨some 23, none, .load none (t 22)⟩, ⟨some 6, none, .mov (t 23)⟩]) (.seq (.ops [⟨some 24, none, .mov (t 6)⟩, ⟨some 25, none, .mov (t 6)⟩, ⟨some 4, none, .mov (t 24)⟩, ⟨some 5, none, .mov (t 25)⟩]) .ret)) (.seq (.ops [⟨some 27, none, .arith .eql (t 9) (v (I 33))⟩, ⟨some 26, none, .mov (t 27)⟩]) (.cond (t 26) (.seq (.ops [⟨some 4, none, .mov (v (I 1))⟩, ⟨some 5, none, .mov (v (I 1))⟩]) .ret) (.seq (.ops [⟨some 29, none, .arith .eql (t 9) (v (I 35))⟩, ⟨some 28, none, .mov (t 29)⟩]) (.cond (t 28) (.seq (.seq (.ops [⟨some 30, none, .fieldAddr 5 (t 3)⟩, ⟨some 31, none, .load none (t 30)⟩]) (.block 1 (.seq (.ops [⟨some 33, none, .arith .eql (t 31) (v (S [114, 101, 97, 100]))⟩, ⟨some 32, none, .mov (t 33)⟩]) (.cond (t 32) (.seq (.ops [⟨some 4, none, .mov (v (I 0))⟩, ⟨some 5, none, .mov (v (I 0))⟩]) .ret) (.seq (.ops [⟨some 35, none, .arith .eql (t 31) (v (S [99, 111, 109, 112, 97, 114, 101, 65, 110, 100, 83, 119, 97, 112]))⟩, ⟨some 34, none, .mov (t 35)⟩]) (.cond (t 34) (.seq (.ops [⟨some 4, none, .mov (v (I 2))⟩, ⟨some 5, none, .mov (v (I 2))⟩]) .ret) .skip)))))) (.seq (.ops [⟨some 4, none, .mov (v (I 1))⟩, ⟨some 5, none, .mov (v (I 1))⟩]) .ret)) (.seq (.ops [⟨some 37, none, .arith .eql (t 9) (v (I 36))⟩, ⟨some 36, none, .mov (t 37)⟩]) (.cond (t 36) (.seq (.ops [⟨some 38, none, .fieldAddr 5 (t 3)⟩, ⟨some 39, none, .load none (t 38)⟩, ⟨some 40, none, .call (v (Fn 104)) [(t 39), (v (S [0]))]⟩, ⟨some 7, none, .mov (t 40)⟩]) (.seq (.ops [⟨some 41, none, .mov (t 7)⟩, ⟨some 42, none, .mov (t 7)⟩, ⟨some 4, none, .mov (t 41)⟩, ⟨some 5, none, .mov (t 42)⟩]) .ret)) .skip)))))))))))) (.seq (.ops [⟨some 4, none, .mov (v (I 0))⟩, ⟨some 5, none, .mov (v (I 0))⟩]) .ret)))⟩
def ir94 : IFunc := ⟨9, [.tmp 4], (.seq (.ops [⟨some 4, none, .mov (v (.bool false))⟩]) (.seq (.ops [⟨some 5, none, .mov (t 0)⟩, ⟨some 6, none, .mov (t 1)⟩, ⟨some 7, none, .call (v (Fn 80)) [(t 5), (t 6)]⟩, ⟨some 8, none, .arith .geq (t 7) (v (I 0))⟩, ⟨some 4, none, .mov (t 8)⟩]) .ret))⟩
def ir95 : IFunc := ⟨10, [.tmp 4], (.seq (.ops [⟨some 4, none, .mov (v (.bool false))⟩]) (.seq (.ops [⟨some 5, none, .load (some 2) (t 1)⟩, ⟨some 6, none, .load (some 4) (t 2)⟩, ⟨some 7, none, .mov (t 0)⟩, ⟨some 8, none, .call (v (Fn 90)) [(t 5), (t 6), (v (I 1)), (t 7)]⟩, ⟨some 9, none, .un .not (t 8)⟩, ⟨some 4, none, .mov (t 9)⟩]) .ret))⟩
def ir96 : IFunc := ⟨45, [.tmp 2], (.seq (.ops [⟨some 2, none, .mov (v (.bool false))⟩]) (.seq (.seq (.ops [⟨some 4, none, .mov (t 0)⟩, ⟨some 5, none, .lenStr (t 4)⟩, ⟨some 6, none, .arith .lss (t 5) (v (I 1))⟩, ⟨some 7, none, .mov (t 6)⟩, ⟨some 8, some (7, false), .mov (t 0)⟩, ⟨some 9, some (7, false), .lenStr (t 8)⟩, ⟨some 10, some (7, false), .arith .gtr (t 9) (v (I 40))⟩, ⟨some 11, none, .pick (t 7) (v (.bool true)) (t 10)⟩]) (.cond (t 11) (.seq (.ops [⟨some 2, none, .mov (v (.bool false))⟩]) .ret) .skip)) (.seq (.seq (.ops [⟨some 3, none, .mov (v (I 0))⟩]) (.block 0 (.loop (.seq (.seq (.ops [⟨some 12, none, .mov (t 3)⟩, ⟨some 13, none, .mov (t 0)⟩, ⟨some 14, none, .lenStr (t 13)⟩, ⟨some 15, none, .arith .lss (t 12) (t 14)⟩]) (.cond (t 15) .skip (.exit 0))) (.seq (.block 1 (.seq (.ops [⟨some 18, none, .mov (t 0)⟩, ⟨some 19, none, .mov (t 3)⟩, ⟨some 20, none, .indexStr (t 18) (t 19)⟩, ⟨some 21, none, .call (v (Fn 105)) [(t 20)]⟩, ⟨some 22, none, .un .not (t 21)⟩, ⟨some 23, none, .mov (t 22)⟩, ⟨some 24, some (23, true), .mov (t 0)⟩, ⟨some 25, some (23, true), .mov (t 3)⟩, ⟨some 26, some (23, true), .indexStr (t 24) (t 25)⟩, ⟨some 27, some (23, true), .arith .neq (t 26) (v (.int .u8 95))⟩, ⟨some 28, none, .pick (t 23) (t 27) (v (.bool false))⟩, ⟨some 29, none, .mov (t 28)⟩, ⟨some 30, some (29, true), .mov (t 3)⟩, ⟨some 31, some (29, true), .arith .eql (t 30) (v (I 0))⟩, ⟨some 32, some (29, true), .mov (t 31)⟩, ⟨some 33, some (32, false), .mov (t 0)⟩, ⟨some 34, some (32, false), .mov (t 3)⟩, ⟨some 35, some (32, false), .indexStr (t 33) (t 34)⟩, ⟨some 36, some (32, false), .arith .lss (t 35) (v (.int .u8 48))⟩, ⟨some 37, some (29, true), .pick (t 32) (v (.bool true)) (t 36)⟩, ⟨some 38, some (29, true), .mov (t 37)⟩, ⟨some 39, some (38, false), .mov (t 0)⟩, ⟨some 40, some (38, false), .mov (t 3)⟩, ⟨some 41, some (38, false), .indexStr (t 39) (t 40)⟩, ⟨some 42, some (38, false), .arith .gtr (t 41) (v (.int .u8 57))⟩, ⟨some 43, some (29, true), .pick (t 38) (v (.bool true)) (t 42)⟩, ⟨some 44, none, .pick (t 29) (t 43) (v (.bool false))⟩]) (.cond (t 44) (.seq (.ops [⟨some 2, none, .mov (v (.bool false))⟩]) .ret) .skip))) (.ops [⟨some 16, none, .mov (t 3)⟩, ⟨some 17, none, .arith .add (t 16) (v (I 1))⟩, ⟨some 3, none, .mov (t 17)⟩])))))) (.seq (.ops [⟨some 2, none, .mov (v (.bool true))⟩]) .ret))))⟩
def ir97 : IFunc := ⟨82, [.tmp 8], (.seq (.ops [⟨some 4, none, .box 53 (t 0)⟩, ⟨some 5, none, .box 65 (t 1)⟩, ⟨some 8, none, .mov (v (.bool false))⟩]) (.seq (.seq (.ops [⟨some 9, none, .mov (t 2)⟩]) (.block 0 (.seq (.ops [⟨some 11, none, .arith .eql (t 9) (v (.int .u8 114))⟩, ⟨some 10, none, .mov (t 11)⟩]) (.cond (t 10) (.seq (.ops [⟨some 12, none, .mov (t 3)⟩, ⟨some 13, none, .arith .geq (t 12) (v (I 0))⟩, ⟨some 14, none, .mov (t 13)⟩, ⟨some 15, some (14, true), .mov (t 3)⟩, ⟨some 16, some (14, true), .fieldAddr 1 (t 5)⟩, ⟨some 17, some (14, true), .load none (t 16)⟩, ⟨some 18, some (14, true), .arith .lss (t 15) (t 17)⟩, ⟨some 19, none, .pick (t 14) (t 18) (v (.bool false))⟩, ⟨some 8, none, .mov (t 19)⟩]) .ret) (.seq (.ops [⟨some 21, none, .arith .eql (t 9) (v (.int .u8 82))⟩, ⟨some 20, none, .mov (t 21)⟩]) (.cond (t 20) (.seq (.ops [⟨some 22, none, .mov (t 3)⟩, ⟨some 23, none, .arith .geq (t 22) (v (I (-1)))⟩, ⟨some 24, none, .mov (t 23)⟩, ⟨some 25, some (24, true), .mov (t 3)⟩, ⟨some 26, some (24, true), .fieldAddr 1 (t 5)⟩, ⟨some 27, some (24, true), .load none (t 26)⟩, ⟨some 28, some (24, true), .arith .lss (t 25) (t 27)⟩, ⟨some 29, none, .pick (t 24) (t 28) (v (.bool false))⟩, ⟨some 8, none, .mov (t 29)⟩]) .ret) (.seq (.ops [⟨some 31, none, .arith .eql (t 9) (v (.int .u8 103))⟩, ⟨some 30, none, .mov (t 31)⟩]) (.cond (t 30) (.seq (.ops [⟨some 32, none, .mov (t 3)⟩, ⟨some 33, none, .arith .geq (t 32) (v (I 0))⟩, ⟨some 34, none, .mov (t 33)⟩, ⟨some 35, some (34, true), .mov (t 3)⟩, ⟨some 36, some (34, true), .fieldAddr 0 (t 4)⟩, ⟨some 37, some (34, true), .load none (t 36)⟩, ⟨some 38, some (34, true), .arith .lss (t 35) (t 37)⟩, ⟨some 39, none, .pick (t 34) (t 38) (v (.bool false))⟩, ⟨some 8, none, .mov (t 39)⟩]) .ret) (.seq (.ops [⟨some 41, none, .arith .eql (t 9) (v (.int .u8 98))⟩, ⟨some 40, none, .mov (t 41)⟩]) (.cond (t 40) (.seq (.ops [⟨some 42, none, .mov (t 3)⟩, ⟨some 43, none, .arith .geq (t 42) (v (I 0))⟩, ⟨some 44, none, .mov (t 43)⟩, ⟨some 45, some (44, true), .mov (t 3)⟩, ⟨some 46, some (44, true), .fieldAddr 1 (t 4)⟩, ⟨some 47, some (44, true), .load none (t 46)⟩, ⟨some 48, some (44, true), .lenSl (t 47)⟩, ⟨some 49, some (44, true), .arith .lss (t 45) (t 48)⟩, ⟨some 50, none, .pick (t 44) (t 49) (v (.bool false))⟩, ⟨some 8, none, .mov (t 50)⟩]) .ret) (.seq (.ops [⟨some 52, none, .arith .eql (t 9) (v (.int .u8 112))⟩, ⟨some 51, none, .mov (t 52)⟩]) (.cond (t 51) (.seq (.ops [⟨some 53, none, .mov (t 3)⟩, ⟨some 54, none, .arith .geq (t 53) (v (I 0))⟩, ⟨some 55, none, .mov (t 54)⟩, ⟨some 56, some (55, true), .mov (t 3)⟩, ⟨some 57, some (55, true), .fieldAddr 3 (t 5)⟩, ⟨some 58, some (55, true), .load none (t 57)⟩, ⟨some 59, some (55, true), .lenSl (t 58)⟩, ⟨some 60, some (55, true), .arith .lss (t 56) (t 59)⟩, ⟨some 61, none, .pick (t 55) (t 60) (v (.bool false))⟩, ⟨some 8, none, .mov (t 61)⟩]) .ret) (.seq (.ops [⟨some 63, none, .arith .eql (t 9) (v (.int .u8 100))⟩, ⟨some 62, none, .mov (t 63)⟩]) (.cond (t 62) (.seq (.ops [⟨some 64, none, .mov (t 3)⟩, ⟨some 65, none, .arith .eql (t 64) (v (I 0))⟩, ⟨some 66, none, .mov (t 65)⟩, ⟨some 67, some (66, false), .mov (t 3)⟩, ⟨some 68, some (66, false), .arith .eql (t 67) (v (I 1))⟩, ⟨some 69, none, .pick (t 66) (v (.bool true)) (t 68)⟩, ⟨some 8, none, .mov (t 69)⟩]) .ret) (.seq (.ops [⟨some 71, none, .arith .eql (t 9) (v (.int .u8 107))⟩, ⟨some 70, none, .mov (t 71)⟩]) (.cond (t 70) (.seq (.ops [⟨some 72, none, .mov (t 3)⟩, ⟨some 73, none, .arith .geq (t 72) (v (I 1))⟩, ⟨some 74, none, .mov (t 73)⟩, ⟨some 75, some (74, true), .mov (t 3)⟩, ⟨some 76, some (74, true), .arith .leq (t 75) (v (I 4))⟩, ⟨some 77, none, .pick (t 74) (t 76) (v (.bool false))⟩, ⟨some 8, none, .mov (t 77)⟩]) .ret) (.seq (.ops [⟨some 79, none, .arith .eql (t 9) (v (.int .u8 110))⟩, ⟨some 78, none, .mov (t 79)⟩]) (.cond (t 78) (.seq (.ops [⟨some 8, none, .mov (v (.bool true))⟩]) .ret) .skip)))))))))))))))))) (.seq (.ops [⟨some 80, none, .mov (t 3)⟩, ⟨some 81, none, .arith .eql (t 80) (v (I 0))⟩, ⟨some 8, none, .mov (t 81)⟩]) .ret)))⟩
def ir98 : IFunc := ⟨19, [.tmp 2], (.seq (.ops [⟨some 2, none, .mov (v (.slice none 0 0))⟩]) (.seq (.seq (.ops [⟨some 3, none, .mov (t 0)⟩]) (.block 0 (.seq (.ops [⟨some 5, none, .arith .eql (t 3) (v (I 3))⟩, ⟨some 4, none, .mov (t 5)⟩]) (.cond (t 4) (.seq (.ops [⟨some 6, none, .buildSlice 9 2 [(S []), (S [])] [(0, 1, (v (S [45]))), (1, 1, (v (S [33])))]⟩, ⟨some 2, none, .mov (t 6)⟩]) .ret) (.seq (.ops [⟨some 8, none, .arith .eql (t 3) (v (I 4))⟩, ⟨some 7, none, .mov (t 8)⟩]) (.cond (t 7) (.seq (.ops [⟨some 9, none, .buildSlice 9 15 [(S []), (S []), (S []), (S []), (S []), (S []), (S []), (S []), (S []), (S []), (S []), (S []), (S []), (S []), (S [])] [(0, 1, (v (S [43]))), (1, 1, (v (S [45]))), (2, 1, (v (S [42]))), (3, 1, (v (S [47]))), (4, 1, (v (S [37]))), (5, 1, (v (S [61, 61]))), (6, 1, (v (S [33, 61]))), (7, 1, (v (S [60]))), (8, 1, (v (S [60, 61]))), (9, 1, (v (S [62]))), (10, 1, (v (S [62, 61]))), (11, 1, (v (S [109, 105, 110]))), (12, 1, (v (S [109, 97, 120]))), (13, 1, (v (S [38, 38]))), (14, 1, (v (S [124, 124])))]⟩, ⟨some 2, none, .mov (t 9)⟩]) .ret) (.seq (.ops [⟨some 11, none, .arith .eql (t 3) (v (I 15))⟩, ⟨some 10, none, .mov (t 11)⟩]) (.cond (t 10) (.seq (.ops [⟨some 12, none, .buildSlice 9 5 [(S []), (S []), (S []), (S []), (S [])] [(0, 1, (v (S [115, 105, 122, 101]))), (1, 1, (v (S [108, 111, 119]))), (2, 1, (v (S [104, 105, 103, 104]))), (3, 1, (v (S [115, 116, 114, 105, 100, 101]))), (4, 1, (v (S [100, 111, 109, 97, 105, 110])))]⟩, ⟨some 2, none, .mov (t 12)⟩]) .ret) (.seq (.ops [⟨some 14, none, .arith .eql (t 3) (v (I 34))⟩, ⟨some 13, none, .mov (t 14)⟩]) (.cond (t 13) (.seq (.ops [⟨some 15, none, .buildSlice 9 8 [(S []), (S []), (S []), (S []), (S []), (S []), (S []), (S [])] [(0, 1, (v (S [114, 101, 97, 100, 70, 69]))), (1, 1, (v (S [114, 101, 97, 100, 70, 70]))), (2, 1, (v (S [114, 101, 97, 100, 88, 88]))), (3, 1, (v (S [119, 114, 105, 116, 101, 69, 70]))), (4, 1, (v (S [119, 114, 105, 116, 101, 70, 70]))), (5, 1, (v (S [119, 114, 105, 116, 101, 88, 70]))), (6, 1, (v (S [114, 101, 115, 101, 116]))), (7, 1, (v (S [105, 115, 70, 117, 108, 108])))]⟩, ⟨some 2, none, .mov (t 15)⟩]) .ret) (.seq (.ops [⟨some 17, none, .arith .eql (t 3) (v (I 35))⟩, ⟨some 16, none, .mov (t 17)⟩]) (.cond (t 16) (.seq (.ops [⟨some 18, none, .buildSlice 9 6 [(S []), (S []), (S []), (S []), (S []), (S [])] [(0, 1, (v (S [114, 101, 97, 100]))), (1, 1, (v (S [119, 114, 105, 116, 101]))), (2, 1, (v (S [97, 100, 100]))), (3, 1, (v (S [102, 101, 116, 99, 104, 65, 100, 100]))), (4, 1, (v (S [101, 120, 99, 104, 97, 110, 103, 101]))), (5, 1, (v (S [99, 111, 109, 112, 97, 114, 101, 65, 110, 100, 83, 119, 97, 112])))]⟩, ⟨some 2, none, .mov (t 18)⟩]) .ret) .skip)))))))))))) (.seq (.ops [⟨some 2, none, .mov (v (.slice none 0 0))⟩]) .ret)))⟩
def ir99 : IFunc := ⟨61, [.tmp 4, .tmp 5], (.seq (.ops [⟨some 2, none, .box 53 (t 0)⟩, ⟨some 3, none, .box 62 (t 1)⟩, ⟨some 4, none, .mov (v (I 0))⟩, ⟨some 5, none, .mov (v (I 0))⟩]) (.seq (.seq (.ops [⟨some 7, none, .fieldAddr 0 (t 3)⟩, ⟨some 8, none, .load none (t 7)⟩]) (.block 0 (.seq (.seq (.ops [⟨some 10, none, .arith .eql (t 8) (v (I 10))⟩, ⟨some 9, none, .mov (t 10)⟩]) (.cond (t 9) .skip (.seq (.ops [⟨some 11, none, .arith .eql (t 8) (v (I 17))⟩, ⟨some 9, none, .mov (t 11)⟩]) (.cond (t 9) .skip (.ops [⟨some 12, none, .arith .eql (t 8) (v (I 18))⟩, ⟨some 9, none, .mov (t 12)⟩]))))) (.cond (t 9) (.seq (.ops [⟨some 4, none, .mov (v (I 1))⟩, ⟨some 5, none, .mov (v (I 2))⟩]) .ret) (.seq (.seq (.ops [⟨some 14, none, .arith .eql (t 8) (v (I 21))⟩, ⟨some 13, none, .mov (t 14)⟩]) (.cond (t 13) .skip (.ops [⟨some 15, none, .arith .eql (t 8) (v (I 27))⟩, ⟨some 13, none, .mov (t 15)⟩]))) (.cond (t 13) (.seq (.ops [⟨some 16, none, .fieldAddr 2 (t 3)⟩, ⟨some 17, none, .load none (t 16)⟩, ⟨some 18, none, .arith .geq (t 17) (v (I 0))⟩, ⟨some 19, none, .mov (t 18)⟩, ⟨some 20, some (19, true), .fieldAddr 2 (t 3)⟩, ⟨some 21, some (19, true), .load none (t 20)⟩, ⟨some 22, some (19, true), .fieldAddr 1 (t 2)⟩, ⟨some 23, some (19, true), .load none (t 22)⟩, ⟨some 24, some (19, true), .lenSl (t 23)⟩, ⟨some 25, some (19, true), .arith .lss (t 21) (t 24)⟩, ⟨some 26, none, .pick (t 19) (t 25) (v (.bool false))⟩]) (.cond (t 26) (.seq (.draw [⟨some 27, none, .fieldAddr 1 (t 2)⟩, ⟨some 28, none, .load none (t 27)⟩, ⟨some 29, none, .fieldAddr 2 (t 3)⟩, ⟨some 30, none, .load none (t 29)⟩, ⟨some 31, none, .indexAddr 4 (t 28) (t 30)⟩, ⟨some 32, none, .fieldAddr 2 (t 31)⟩, ⟨some 33, none, .load none (t 32)⟩, ⟨some 34, none, .fieldAddr 1 (t 2)⟩, ⟨some 35, none, .load none (t 34)⟩, ⟨some 36, none, .fieldAddr 2 (t 3)⟩, ⟨some 37, none, .load none (t 36)⟩, ⟨some 38, none, .indexAddr 4 (t 35) (t 37)⟩, ⟨some 39, none, .fieldAddr 2 (t 38)⟩, ⟨some 40, none, .load none (t 39)⟩, ⟨some 4, none, .mov (t 33)⟩] [⟨some 5, none, .mov (t 40)⟩]) .ret) .skip)) (.seq (.ops [⟨some 42, none, .arith .eql (t 8) (v (I 33))⟩, ⟨some 41, none, .mov (t 42)⟩]) (.cond (t 41) (.seq (.ops [⟨some 4, none, .mov (v (I 1))⟩, ⟨some 5, none, .mov (v (I 1))⟩]) .ret) (.seq (.ops [⟨some 44, none, .arith .eql (t 8) (v (I 35))⟩, ⟨some 43, none, .mov (t 44)⟩]) (.cond (t 43) (.seq (.ops [⟨some 6, none, .mov (v (I 1))⟩]) (.seq (.seq (.ops [⟨some 45, none, .fieldAddr 5 (t 3)⟩, ⟨some 46, none, .load none (t 45)⟩, ⟨some 47, none, .arith .eql (t 46) (v (S [114, 101, 97, 100]))⟩]) (.cond (t 47) (.ops [⟨some 6, none, .mov (v (I 0))⟩]) .skip)) (.seq (.seq (.ops [⟨some 48, none, .fieldAddr 5 (t 3)⟩, ⟨some 49, none, .load none (t 48)⟩, ⟨some 50, none, .arith .eql (t 49) (v (S [99, 111, 109, 112, 97, 114, 101, 65, 110, 100, 83, 119, 97, 112]))⟩]) (.cond (t 50) (.ops [⟨some 6, none, .mov (v (I 2))⟩]) .skip)) (.seq (.ops [⟨some 51, none, .mov (t 6)⟩, ⟨some 52, none, .mov (t 6)⟩, ⟨some 4, none, .mov (t 51)⟩, ⟨some 5, none, .mov (t 52)⟩]) .ret)))) (.seq (.ops [⟨some 54, none, .arith .eql (t 8) (v (I 36))⟩, ⟨some 53, none, .mov (t 54)⟩]) (.cond (t 53) (.seq (.draw [⟨some 55, none, .fieldAddr 5 (t 3)⟩, ⟨some 56, none, .load none (t 55)⟩, ⟨some 57, none, .call (v (Fn 106)) [(t 56)]⟩, ⟨some 58, none, .fieldAddr 5 (t 3)⟩, ⟨some 59, none, .load none (t 58)⟩] [⟨some 60, none, .call (v (Fn 106)) [(t 59)]⟩, ⟨some 4, none, .mov (t 57)⟩, ⟨some 5, none, .mov (t 60)⟩]) .ret) .skip)))))))))))) (.seq (.ops [⟨some 4, none, .mov (v (I 0))⟩, ⟨some 5, none, .mov (v (I 0))⟩]) .ret)))⟩
def ir100 : IFunc := ⟨8, [.tmp 4], (.seq (.ops [⟨some 4, none, .mov (v (I 0))⟩]) (.seq (.ops [⟨some 5, none, .mov (t 0)⟩, ⟨some 6, none, .mov (t 1)⟩, ⟨some 7, none, .call (v (Fn 107)) [(t 5), (t 6), (v (.bool true))]⟩, ⟨some 4, none, .mov (t 7)⟩]) .ret))⟩
def ir101 : IFunc := ⟨19, [.tmp 4], (.seq (.ops [⟨some 4, none, .mov (v (I 0))⟩]) (.seq (.seq (.ops [⟨some 6, none, .mov (t 0)⟩, ⟨some 7, none, .lenSl (t 6)⟩, ⟨some 8, none, .mov (v (I 0))⟩]) (.block 0 (.loop (.seq (.ops [⟨some 9, none, .arith .lss (t 8) (t 7)⟩]) (.seq (.cond (t 9) .skip (.exit 0)) (.seq (.block 1 (.seq (.ops [⟨some 10, none, .mov (t 8)⟩, ⟨some 5, none, .mov (t 10)⟩]) (.seq (.ops [⟨some 11, none, .mov (t 1)⟩, ⟨some 12, none, .mov (t 0)⟩, ⟨some 13, none, .mov (t 5)⟩, ⟨some 14, none, .indexAddr 1 (t 12) (t 13)⟩, ⟨some 15, none, .load none (t 14)⟩, ⟨some 16, none, .arith .eql (t 11) (t 15)⟩]) (.cond (t 16) (.seq (.ops [⟨some 17, none, .mov (t 5)⟩, ⟨some 4, none, .mov (t 17)⟩]) .ret) .skip)))) (.ops [⟨some 18, none, .arith .add (t 8) (v (I 1))⟩, ⟨some 8, none, .mov (t 18)⟩]))))))) (.seq (.ops [⟨some 4, none, .mov (v (I (-1)))⟩]) .ret)))⟩
def ir102 : IFunc := ⟨65, [.tmp 4], (.seq (.ops [⟨some 4, none, .mov (v (.slice none 0 0))⟩]) (.seq (.ops [⟨some 12, none, .makeSlice 153 16 [(I 0), (I 0)] (v (I 0)) (v (I 32))⟩, ⟨some 5, none, .mov (t 12)⟩]) (.seq (.ops [⟨some 6, none, .mov (v (I (-1)))⟩]) (.seq (.seq (.ops [⟨some 13, none, .mov (t 0)⟩, ⟨some 14, none, .rangeStr (t 13)⟩]) (.block 0 (.loop (.seq (.ops [⟨some 15, none, .nextStr (t 14)⟩, ⟨some 16, none, .extract (t 15) 0⟩]) (.seq (.cond (t 16) .skip (.exit 0)) (.block 1 (.seq (.ops [⟨some 17, none, .extract (t 15) 1⟩, ⟨some 18, none, .extract (t 15) 2⟩, ⟨some 7, none, .mov (t 17)⟩, ⟨some 8, none, .mov (t 18)⟩]) (.seq (.ops [⟨some 19, none, .mov (t 1)⟩, ⟨some 20, none, .mov (t 8)⟩, ⟨some 21, none, .call (t 19) [(t 20)]⟩]) (.cond (t 21) (.seq (.ops [⟨some 22, none, .mov (t 6)⟩, ⟨some 23, none, .arith .geq (t 22) (v (I 0))⟩]) (.cond (t 23) (.seq (.ops [⟨some 24, none, .mov (t 5)⟩, ⟨some 25, none, .mov (t 6)⟩, ⟨some 26, none, .mov (t 7)⟩, ⟨some 27, none, .build [(I 0), (I 0)] [(0, 1, (t 25)), (1, 1, (t 26))]⟩, ⟨some 28, none, .buildSlice 153 1 [(I 0), (I 0)] [(0, 2, (t 27))]⟩, ⟨some 29, none, .append 153 2 16 (t 24) (t 28)⟩, ⟨some 5, none, .mov (t 29)⟩]) (.ops [⟨some 30, none, .mov (t 6)⟩, ⟨some 31, none, .un .xor (t 30)⟩, ⟨some 6, none, .mov (t 31)⟩])) .skip)) (.seq (.ops [⟨some 32, none, .mov (t 6)⟩, ⟨some 33, none, .arith .lss (t 32) (v (I 0))⟩]) (.cond (t 33) (.ops [⟨some 34, none, .mov (t 7)⟩, ⟨some 6, none, .mov (t 34)⟩]) .skip))))))))))) (.seq (.seq (.ops [⟨some 35, none, .mov (t 6)⟩, ⟨some 36, none, .arith .geq (t 35) (v (I 0))⟩]) (.cond (t 36) (.ops [⟨some 37, none, .mov (t 5)⟩, ⟨some 38, none, .mov (t 6)⟩, ⟨some 39, none, .mov (t 0)⟩, ⟨some 40, none, .lenStr (t 39)⟩, ⟨some 41, none, .build [(I 0), (I 0)] [(0, 1, (t 38)), (1, 1, (t 40))]⟩, ⟨some 42, none, .buildSlice 153 1 [(I 0), (I 0)] [(0, 2, (t 41))]⟩, ⟨some 43, none, .append 153 2 16 (t 37) (t 42)⟩, ⟨some 5, none, .mov (t 43)⟩]) .skip)) (.seq (.ops [⟨some 44, none, .mov (t 5)⟩, ⟨some 45, none, .lenSl (t 44)⟩, ⟨some 46, none, .makeSlice 9 16 [(S [])] (t 45) (t 45)⟩, ⟨some 9, none, .mov (t 46)⟩]) (.seq (.seq (.ops [⟨some 47, none, .mov (t 5)⟩, ⟨some 48, none, .lenSl (t 47)⟩, ⟨some 49, none, .mov (v (I 0))⟩]) (.block 2 (.loop (.seq (.ops [⟨some 50, none, .arith .lss (t 49) (t 48)⟩]) (.seq (.cond (t 50) .skip (.exit 2)) (.seq (.block 3 (.seq (.ops [⟨some 51, none, .mov (t 49)⟩, ⟨some 52, none, .indexAddr 2 (t 47) (t 49)⟩, ⟨some 53, none, .load (some 2) (t 52)⟩, ⟨some 11, none, .box 153 (v (.agg #[(I 0), (I 0)]))⟩, ⟨some 10, none, .mov (t 51)⟩, ⟨none, none, .store 2 (t 11) (t 53)⟩]) (.ops [⟨some 54, none, .mov (t 9)⟩, ⟨some 55, none, .mov (t 10)⟩, ⟨some 56, none, .mov (t 0)⟩, ⟨some 57, none, .fieldAddr 0 (t 11)⟩, ⟨some 58, none, .load none (t 57)⟩, ⟨some 59, none, .fieldAddr 1 (t 11)⟩, ⟨some 60, none, .load none (t 59)⟩, ⟨some 61, none, .sliceStr (t 56) (some (t 58)) (some (t 60))⟩, ⟨some 62, none, .indexAddr 1 (t 54) (t 55)⟩, ⟨none, none, .store 1 (t 62) (t 61)⟩]))) (.ops [⟨some 63, none, .arith .add (t 49) (v (I 1))⟩, ⟨some 49, none, .mov (t 63)⟩]))))))) (.seq (.ops [⟨some 64, none, .mov (t 9)⟩, ⟨some 4, none, .mov (t 64)⟩]) .ret))))))))⟩
def ir104 : IFunc := ⟨34, [.tmp 4], (.seq (.ops [⟨some 4, none, .mov (v (I 0))⟩]) (.seq (.seq (.ops [⟨some 7, none, .mov (t 1)⟩, ⟨some 8, none, .lenStr (t 7)⟩, ⟨some 9, none, .arith .eql (t 8) (v (I 0))⟩]) (.cond (t 9) (.seq (.ops [⟨some 10, none, .mov (t 0)⟩, ⟨some 11, none, .call (v (Fn 109)) [(t 10)]⟩, ⟨some 12, none, .arith .add (t 11) (v (I 1))⟩, ⟨some 4, none, .mov (t 12)⟩]) .ret) .skip)) (.seq (.seq (.ops [⟨some 13, none, .mov (t 1)⟩, ⟨some 14, none, .lenStr (t 13)⟩, ⟨some 15, none, .arith .eql (t 14) (v (I 1))⟩]) (.cond (t 15) (.seq (.ops [⟨some 16, none, .mov (t 0)⟩, ⟨some 17, none, .mov (t 1)⟩, ⟨some 18, none, .indexStr (t 17) (v (I 0))⟩, ⟨some 19, none, .call (v (Fn 110)) [(t 16), (t 18)]⟩, ⟨some 4, none, .mov (t 19)⟩]) .ret) .skip)) (.seq (.ops [⟨some 5, none, .mov (v (I 0))⟩]) (.block 0 (.loop (.block 1 (.seq (.ops [⟨some 20, none, .mov (t 0)⟩, ⟨some 21, none, .mov (t 1)⟩, ⟨some 22, none, .call (v (Fn 111)) [(t 20), (t 21)]⟩, ⟨some 6, none, .mov (t 22)⟩]) (.seq (.seq (.ops [⟨some 23, none, .mov (t 6)⟩, ⟨some 24, none, .arith .eql (t 23) (v (I (-1)))⟩]) (.cond (t 24) (.seq (.ops [⟨some 25, none, .mov (t 5)⟩, ⟨some 4, none, .mov (t 25)⟩]) .ret) .skip)) (.seq (.ops [⟨some 26, none, .mov (t 5)⟩, ⟨some 27, none, .arith .add (t 26) (v (I 1))⟩, ⟨some 5, none, .mov (t 27)⟩]) (.ops [⟨some 28, none, .mov (t 0)⟩, ⟨some 29, none, .mov (t 6)⟩, ⟨some 30, none, .mov (t 1)⟩, ⟨some 31, none, .lenStr (t 30)⟩, ⟨some 32, none, .arith .add (t 29) (t 31)⟩, ⟨some 33, none, .sliceStr (t 28) (some (t 32)) none⟩, ⟨some 0, none, .mov (t 33)⟩])))))))))))⟩
def ir105 : IFunc := ⟨17, [.tmp 2], (.seq (.ops [⟨some 2, none, .mov (v (.bool false))⟩]) (.seq (.ops [⟨some 3, none, .mov (t 0)⟩, ⟨some 4, none, .arith .geq (t 3) (v (.int .u8 97))⟩, ⟨some 5, none, .mov (t 4)⟩, ⟨some 6, some (5, true), .mov (t 0)⟩, ⟨some 7, some (5, true), .arith .leq (t 6) (v (.int .u8 122))⟩, ⟨some 8, none, .pick (t 5) (t 7) (v (.bool false))⟩, ⟨some 9, none, .mov (t 8)⟩, ⟨some 10, some (9, false), .mov (t 0)⟩, ⟨some 11, some (9, false), .arith .geq (t 10) (v (.int .u8 65))⟩, ⟨some 12, some (9, false), .mov (t 11)⟩, ⟨some 13, some (12, true), .mov (t 0)⟩, ⟨some 14, some (12, true), .arith .leq (t 13) (v (.int .u8 90))⟩, ⟨some 15, some (9, false), .pick (t 12) (t 14) (v (.bool false))⟩, ⟨some 16, none, .pick (t 9) (v (.bool true)) (t 15)⟩, ⟨some 2, none, .mov (t 16)⟩]) .ret))⟩
def ir106 : IFunc := ⟨18, [.tmp 2], (.seq (.ops [⟨some 2, none, .mov (v (I 0))⟩]) (.seq (.ops [⟨some 3, none, .mov (v (I 0))⟩]) (.seq (.seq (.ops [⟨some 4, none, .mov (v (I 0))⟩]) (.block 0 (.loop (.seq (.seq (.ops [⟨some 5, none, .mov (t 4)⟩, ⟨some 6, none, .mov (t 0)⟩, ⟨some 7, none, .lenStr (t 6)⟩, ⟨some 8, none, .arith .lss (t 5) (t 7)⟩]) (.cond (t 8) .skip (.exit 0))) (.seq (.block 1 (.seq (.ops [⟨some 11, none, .mov (t 0)⟩, ⟨some 12, none, .mov (t 4)⟩, ⟨some 13, none, .indexStr (t 11) (t 12)⟩, ⟨some 14, none, .arith .eql (t 13) (v (.int .u8 0))⟩]) (.cond (t 14) (.ops [⟨some 15, none, .mov (t 3)⟩, ⟨some 16, none, .arith .add (t 15) (v (I 1))⟩, ⟨some 3, none, .mov (t 16)⟩]) .skip))) (.ops [⟨some 9, none, .mov (t 4)⟩, ⟨some 10, none, .arith .add (t 9) (v (I 1))⟩, ⟨some 4, none, .mov (t 10)⟩])))))) (.seq (.ops [⟨some 17, none, .mov (t 3)⟩, ⟨some 2, none, .mov (t 17)⟩]) .ret))))⟩
def ir107 : IFunc := ⟨21, [.tmp 6], (.seq (.ops [⟨some 6, none, .mov (v (I 0))⟩]) (.seq (.seq (.ops [⟨some 9, none, .mov (t 0)⟩, ⟨some 10, none, .rangeStr (t 9)⟩]) (.block 0 (.loop (.seq (.ops [⟨some 11, none, .nextStr (t 10)⟩, ⟨some 12, none, .extract (t 11) 0⟩]) (.seq (.cond (t 12) .skip (.exit 0)) (.block 1 (.seq (.ops [⟨some 13, none, .extract (t 11) 1⟩, ⟨some 14, none, .extract (t 11) 2⟩, ⟨some 7, none, .mov (t 13)⟩, ⟨some 8, none, .mov (t 14)⟩]) (.seq (.ops [⟨some 15, none, .mov (t 1)⟩, ⟨some 16, none, .mov (t 8)⟩, ⟨some 17, none, .call (t 15) [(t 16)]⟩, ⟨some 18, none, .mov (t 2)⟩, ⟨some 19, none, .eqBool false (t 17) (t 18)⟩]) (.cond (t 19) (.seq (.ops [⟨some 20, none, .mov (t 7)⟩, ⟨some 6, none, .mov (t 20)⟩]) .ret) .skip))))))))) (.seq (.ops [⟨some 6, none, .mov (v (I (-1)))⟩]) .ret)))⟩
end Go.Den.IrD
/- The seat's functions, part A: comparisons and searches of lists. -/
namespace Go.Den
open IrD
attribute [local irreducible] T.get T.set
def FD : FuncId → Option IFunc
 | 5 => some ir5
 | 13 => some ir13
 | 23 => some ir23
 | 24 => some ir24
 | 25 => some ir25
 | 26 => some ir26
 | 27 => some ir27
 | 28 => some ir28
 | 34 => some ir34
 | 35 => some ir35
 | 41 => some ir41
 | 42 => some ir42
 | 43 => some ir43
 | 44 => some ir44
 | 45 => some ir45
 | 46 => some ir46
 | 47 => some ir47
 | 48 => some ir48
 | 49 => some ir49
 | 50 => some ir50
 | 51 => some ir51
 | 52 => some ir52
 | 53 => some ir53
 | 54 => some ir54
 | 55 => some ir55
 | 56 => some ir56
 | 57 => some ir57
 | 58 => some ir58
 | 59 => some ir59
 | 63 => some ir63
 | 64 => some ir64
 | 65 => some ir65
 | 66 => some ir66
 | 67 => some ir67
 | 68 => some ir68
 | 69 => some ir69
 | 70 => some ir70
 | 71 => some ir71
 | 73 => some ir73
 | 74 => some ir74
 | 75 => some ir75
 | 76 => some ir76
 | 77 => some ir77
 | 78 => some ir78
 | 79 => some ir79
 | 80 => some ir80
 | 81 => some ir81
 | 82 => some ir82
 | 83 => some ir83
 | 84 => some ir84
 | 85 => some ir85
 | 86 => some ir86
 | 87 => some ir87
 | 88 => some ir88
 | 89 => some ir89
 | 90 => some ir90
 | 91 => some ir91
 | 92 => some ir92
 | 93 => some ir93
 | 94 => some ir94
 | 95 => some ir95
 | 96 => some ir96
 | 97 => some ir97
 | 98 => some ir98
 | 99 => some ir99
 | 100 => some ir100
 | 101 => some ir101
 | 104 => some ir104
 | 105 => some ir105
 | 106 => some ir106
 | 107 => some ir107
 | _ => none
def xCount : List Value → AH → Option (Out × AH)
 | [.string s, .int .u8 c], H => some (.ret (.int .i64 ((s.data.toList.count c.toNat.toUInt8 : Nat) : Int)), H)
 | _, _ => none
def XN : Ext := fun f => if f = 110 then some xCount else none
def GlRows (H : AH) : Prop := ∀ k z, glZ k = some z → ∃ ro thr tip, H.get k = some (.cells z.cs z.t ro true k thr tip) ∧ thr ≤ k
open Classical in
noncomputable def xAwake : List Value → AH → Option (Out × AH)
 | [], H => if GlRows H then some (.ret (.bool true), H) else none
 | _, _ => none
noncomputable def XA : Ext := fun f => if f = 8 then some xAwake else none
theorem FD_ext : ∀ f fn, FD f = some fn → XA f = none ∧ XN f = none := by
 intro f fn h
 refine ⟨?_, ?_⟩
 ·unfold XA
  split
  ·rename_i h8; subst h8; cases h
  ·rfl
 ·unfold XN
  split
  ·rename_i h8; subst h8; cases h
  ·rfl
abbrev PPd := PP FD XA XN
abbrev big (n : Nat) : Prop := n ≤ 4611686018427387904
theorem wrap_inc {i n : Nat} (h : i < n) (hn : big n) : IntKind.wrap .i64 ((i : Int) + 1) = ((i + 1 : Nat) : Int) := by
 rw [wrap64 (by omega) (by omega)]; simp
theorem take_step {l : List Int} {i : Nat} {n : Int} (h : i < l.length) (h1 : n ∉ l.take i) (h2 : ¬ l[i] = n) : n ∉ l.take (i + 1) := by
 rw [List.take_succ_eq_append_getElem h]
 simp only [List.mem_append, List.mem_singleton, not_or]
 exact ⟨h1, fun e => h2 e.symm⟩
theorem has_ok {t : TypeId} {l : List Int} {n : Int} (hl : big l.length) : PPd (.fn 35 [] []) [ints t l, pin n] (pbool (decide (n ∈ l))) := by
 refine PP_code rfl rfl rfl (by simp) (by simp) (by simp) (PW_ok _ ?_)
 simp [ir35]
 refine PC_loop0 (fun m E L => ∃ i, i + m = l.length ∧ n ∉ l.take i ∧ L = [] ∧ E.get 0 = some (ints t l) ∧ E.get 1 = some (pin n) ∧ E.get 5 = some (pin i)) ?_ (k := l.length) ⟨0, by simp⟩
 rintro m E L ⟨i, him, hc, rfl, e0, e1, e5⟩
 simp [e0, e1, e5, ints]
 refine ⟨fun h => ?_, fun h => ?_⟩
 ·simp [e0, e1, e5, cut1 h, h, wrap_inc h hl]
  refine ⟨fun h1 => ?_, fun h1 => ?_⟩
  ·exact .decT (h1 ▸ List.getElem_mem h)
  ·exact ⟨m - 1, by omega, i + 1, by omega, take_step h hc h1, by simp [ints]⟩
 ·rw [List.take_of_length_le h] at hc
  simp [hc]; exact .same rfl
theorem eqInts_ok {t t' : TypeId} {a b : List Int} (hb : big a.length) : PPd (.fn 13 [] []) [ints t a, ints t' b] (pbool (decide (a = b))) := by
 refine PP_code rfl rfl rfl (by simp) (by simp) (by simp) (PW_ok _ ?_)
 simp [ir13, ints]
 refine ⟨fun h => ?_, fun h => ?_⟩
 ·exact .decF (fun e => h (by rw [e]))
 ·refine PC_loop0 (fun m E L => ∃ i, i + m = a.length ∧ a.take i = b.take i ∧ L = [] ∧ E.get 0 = some (ints t a) ∧ E.get 1 = some (ints t' b) ∧ E.get 12 = some (pin a.length) ∧ E.get 13 = some (pin i)) ?_ (k := a.length) ⟨0, by simp [ints]⟩
  rintro m E L ⟨i, him, hc, rfl, e0, e1, e12, e13⟩
  simp [e0, e1, e12, e13]
  refine ⟨fun hlt => ?_, fun hge => ?_⟩
  ·have hlt' : i < b.length := by omega
   simp [e0, e1, e12, e13, ints, cut1 hlt, cut1 hlt', hlt, hlt', wrap_inc hlt hb]
   refine ⟨fun h1 => ?_, fun h1 => ?_⟩
   ·exact .decF (fun e => h1 (by simp [e]))
   ·refine ⟨m - 1, by omega, i + 1, by omega, ?_, by simp⟩
    rw [List.take_succ_eq_append_getElem hlt, List.take_succ_eq_append_getElem hlt', hc, h1]
  ·rw [List.take_of_length_le hge, List.take_of_length_le (by omega)] at hc
   exact .decT hc
def blist (t : TypeId) (l : List Bool) : PV := .fz t l.length (l.map pbool)
@[simp] theorem blist_noId {t : TypeId} {l : List Bool} : noId (blist t l) = true := by simp only [blist, noId]; exact noIdL_map fun _ _ => rfl
def putL (l : List Int) (n : Int) : List Int := if n ∈ l then l else l.takeWhile (· < n) ++ n :: l.dropWhile (· < n)
theorem takeWhile_at {l : List Int} {n : Int} {i : Nat} (h1 : ∀ x ∈ l.take i, x < n) (hi : i ≤ l.length) (h2 : ∀ h : i < l.length, ¬ l[i] < n) : l.takeWhile (· < n) = l.take i ∧ l.dropWhile (· < n) = l.drop i := by
 induction l generalizing i with
 | nil => simp at hi; subst hi; simp
 | cons a l ih =>
  cases i with
  | zero =>
   have := h2 (by simp)
   simp only [List.getElem_cons_zero] at this
   simp [List.takeWhile_cons, List.dropWhile_cons, this]
  | succ i =>
   have ha : a < n := h1 a (by simp)
   obtain ⟨c1, c2⟩ := ih (i := i) (fun x hx => h1 x (by simp [hx])) (by simp at hi; omega) (fun h => by have := h2 (by simpa using h); simpa using this)
   simp [List.takeWhile_cons, List.dropWhile_cons, ha, c1, c2]
theorem roomy_of {n b : Nat} (h : n ≤ 1000000000) (hb : b ≤ 10000) : roomy n b := by
 unfold roomy
 exact Nat.le_trans (Nat.mul_le_mul (show 2 * n + 1000 ≤ 2000001000 by omega) (show b + 1 ≤ 10001 by omega)) (by decide)
set_option maxHeartbeats 1000000 in
theorem put_ok {l : List Int} {n : Int} (hl : l.length ≤ 1000000) : PPd (.fn 34 [] []) [ints 3 l, pin n] (ints 3 (putL l n)) := by
 have hb : big l.length := by unfold big; omega
 refine PP_code rfl rfl rfl (by simp) (by simp) (by simp) (PW_ok _ ?_)
 simp [ir34]
 refine (has_ok hb).runk ?_
 by_cases hn : n ∈ l
 ·simp [hn, putL]
  exact .same (by simp)
 ·simp [hn]
  refine PC_loop0 (fun m E L => ∃ i, i + m = l.length ∧ (∀ x ∈ l.take i, x < n) ∧ L = [] ∧ E.get 0 = some (ints 3 l) ∧ E.get 1 = some (pin n) ∧ E.get 5 = some (pin i)) ?_ (k := l.length) ⟨0, by simp⟩
  rintro m E L ⟨i, him, hc, rfl, e0, e1, e5⟩
  have r0 : roomy 1 8 := roomy_of (by omega) (by omega)
  by_cases hlt : i < l.length
  ·have r1 : roomy i 8 := roomy_of (by omega) (by omega)
   have r2 : roomy (i + 1) 8 := roomy_of (by omega) (by omega)
   have r3 : roomy (i + 1 + (l.length - i)) 8 := roomy_of (by omega) (by omega)
   have hle : i ≤ l.length := by omega
   simp [e0, e1, e5, ints, hlt, cut1 hlt, cut_take, cut_drop (show i + (l.length - i) = l.length by omega), hle, r0, r1, r2, r3, wrap_inc hlt hb]
   refine ⟨fun h1 => ⟨m - 1, by omega, i + 1, by omega, fun x hx => ?_, by simp⟩, fun h1 => ?_⟩
   ·rw [List.take_succ_eq_append_getElem hlt] at hx
    rcases List.mem_append.1 hx with hx | hx
    ·exact hc x hx
    ·simp at hx; rw [hx]; exact h1
   ·obtain ⟨c1, c2⟩ := takeWhile_at hc hle (fun _ => by omega)
    refine Vw.frz rfl (by simp) (by simp) ?_
    simp [putL, hn, c1, c2]
    omega
  ·obtain rfl : i = l.length := by omega
   have r1 : roomy l.length 8 := roomy_of (by omega) (by omega)
   have r2 : roomy (l.length + 1) 8 := roomy_of (by omega) (by omega)
   simp [e0, e1, e5, ints, r0, r1, r2, cut_take]
   obtain ⟨c1, c2⟩ := takeWhile_at hc (Nat.le_refl _) (fun h => absurd h (Nat.lt_irrefl _))
   refine Vw.frz rfl (by simp) (by simp) ?_
   simp [putL, hn, c1, c2]
structure Blk where
 src : Int
 to : Int
 next : List Int
def encB (b : Blk) : List PV := [pin b.src, pin b.to, ints 3 b.next]
@[simp] theorem encB_len (b : Blk) : (encB b).length = 3 := rfl
@[simp] theorem encB_nl (b : Blk) : allNl (encB b) := by simp [encB, ints]
@[simp] theorem encB_noId (b : Blk) : noIdL (encB b) = true := by simp [encB]
def blks (t : TypeId) (bs : List Blk) : PV := recs t encB bs
@[simp] theorem blks_noId {t : TypeId} {bs : List Blk} : noId (blks t bs) = true := by simp [blks, recs]
def inG (n : Nat) (x : Int) : Bool := decide (0 ≤ x) && decide (x < n)
end Go.Den
/- The plain law of graphs. -/
namespace Go.Den
def succs (bs : List Blk) (k : Nat) : List Int := ((bs[k]?.map (·.next)).getD []).filter (inG bs.length)
inductive Reach (bs : List Blk) (no : Int) : Nat → Prop
 | zero : bs ≠ [] → no ≠ 0 → Reach bs no 0
 | step {i : Nat} {x : Int} : Reach bs no i → x ∈ succs bs i → x ≠ no → Reach bs no x.toNat
open Classical in
noncomputable def reachL (bs : List Blk) (no : Int) : List Bool := (List.range bs.length).map fun i => decide (Reach bs no i)
end Go.Den
/- The seat's functions, part F: reach of the reference. -/
namespace Go.Den
open IrD
attribute [local irreducible] T.get T.set
def closedAt (bs : List Blk) (no : Int) (f : List Bool) (j : Nat) : Prop := f[j]? = some true → ∀ x ∈ succs bs j, x ≠ no → f[x.toNat]? = some true
def pre {α : Type} (n : Nat) (g : Nat → α) (x : α) (i : Nat) : List α := (List.range n).map fun j => if j < i then g j else x
end Go.Den
/- The law of natural loops. -/
namespace Go.Den
abbrev Asc (l : List Int) : Prop := l.Pairwise (· < ·)
theorem asc_ext : ∀ {l l' : List Int}, Asc l → Asc l' → (∀ x, x ∈ l ↔ x ∈ l') → l = l' := by
 intro l
 induction l with
 | nil => intro l' _ _ h; cases l' with
  | nil => rfl
  | cons a l' => have := (h a).2 (by simp); simp at this
 | cons a l ih =>
  intro l' h1 h2 h
  cases l' with
  | nil => have := (h a).1 (by simp); simp at this
  | cons b l' =>
   rw [Asc, List.pairwise_cons] at h1 h2
   have hab : a = b := by
    have ha := (h a).1 (by simp)
    have hb := (h b).2 (by simp)
    rcases List.mem_cons.1 ha with e | e
    ·exact e
    ·rcases List.mem_cons.1 hb with e' | e'
     ·exact e'.symm
     ·have := h1.1 b e'; have := h2.1 a e; omega
   subst hab
   congr 1
   refine ih h1.2 h2.2 fun x => ⟨fun hx => ?_, fun hx => ?_⟩
   ·rcases List.mem_cons.1 ((h x).1 (List.mem_cons_of_mem _ hx)) with e | e
    ·subst e; have := h1.1 x hx; omega
    ·exact e
   ·rcases List.mem_cons.1 ((h x).2 (List.mem_cons_of_mem _ hx)) with e | e
    ·subst e; have := h2.1 x hx; omega
    ·exact e
theorem putL_mem {l : List Int} {n x : Int} : x ∈ putL l n ↔ x ∈ l ∨ x = n := by
 unfold putL
 split
 ·rename_i h
  exact ⟨.inl, fun h' => h'.elim id (fun e => e ▸ h)⟩
 ·rw [List.mem_append, List.mem_cons]
  conv => rhs; rw [← List.takeWhile_append_dropWhile (p := fun y => decide (y < n)) (l := l), List.mem_append]
  constructor
  ·rintro (h | h | h)
   ·exact .inl (.inl h)
   ·exact .inr h
   ·exact .inl (.inr h)
  ·rintro ((h | h) | h)
   ·exact .inl h
   ·exact .inr (.inr h)
   ·exact .inr (.inl h)
theorem dropWhile_gt : ∀ {l : List Int} {n : Int}, Asc l → n ∉ l → ∀ x ∈ l.dropWhile (fun y => decide (y < n)), n < x := by
 intro l
 induction l with
 | nil => intro n _ _ x hx; simp at hx
 | cons a l ih =>
  intro n h hn x hx
  rw [Asc, List.pairwise_cons] at h
  simp only [List.mem_cons, not_or] at hn
  rw [List.dropWhile_cons] at hx
  split at hx
  ·exact ih h.2 hn.2 x hx
  ·rename_i ha
   simp only [decide_eq_true_eq] at ha
   rcases List.mem_cons.1 hx with e | e
   ·subst e; omega
   ·have := h.1 x e; omega
theorem takeWhile_lt {n : Int} : ∀ {l : List Int}, ∀ x ∈ l.takeWhile (fun y => decide (y < n)), x < n := by
 intro l
 induction l with
 | nil => intro x hx; simp at hx
 | cons a l ih =>
  intro x hx
  rw [List.takeWhile_cons] at hx
  split at hx
  ·rename_i ha
   rcases List.mem_cons.1 hx with e | e
   ·subst e; simpa using ha
   ·exact ih x e
  ·simp at hx
theorem putL_asc {l : List Int} {n : Int} (h : Asc l) : Asc (putL l n) := by
 unfold putL
 split
 ·exact h
 ·rename_i hn
  have h' := h
  rw [Asc, ← List.takeWhile_append_dropWhile (p := fun y => decide (y < n)) (l := l), List.pairwise_append] at h'
  rw [Asc, List.pairwise_append, List.pairwise_cons]
  refine ⟨h'.1, ⟨dropWhile_gt h hn, h'.2.1⟩, fun a ha b hb => ?_⟩
  rcases List.mem_cons.1 hb with e | e
  ·subst e; exact takeWhile_lt a ha
  ·have := takeWhile_lt a ha; have := dropWhile_gt h hn b e; omega
theorem putL_len {l : List Int} {n : Int} : (putL l n).length ≤ l.length + 1 := by
 unfold putL
 split
 ·omega
 ·have h1 : (l.takeWhile (fun y => decide (y < n))).length + (l.dropWhile (fun y => decide (y < n))).length = l.length := by rw [← List.length_append, List.takeWhile_append_dropWhile]
  simp only [List.length_append, List.length_cons]
  omega
structure Lp where
 head : Int
 blocks : List Int
def encL (x : Lp) : List PV := [pin x.head, ints 3 x.blocks]
@[simp] theorem encL_len (b : Lp) : (encL b).length = 2 := rfl
@[simp] theorem encL_nl (b : Lp) : allNl (encL b) := by simp [encL, ints]
@[simp] theorem encL_noId (b : Lp) : noIdL (encL b) = true := by simp [encL]
end Go.Den
/- The seat's functions, part M: Loops of the reference. -/
namespace Go.Den
open IrD
attribute [local irreducible] T.get T.set
theorem countP_lt {α : Type} {p q : α → Bool} : ∀ {l : List α} {a : α}, (∀ x, q x = true → p x = true) → a ∈ l → p a = true → q a = false → l.countP q < l.countP p := by
 intro l
 induction l with
 | nil => intro a _ h; simp at h
 | cons b l ih =>
  intro a h ha hp hq
  have hle : l.countP q ≤ l.countP p := List.countP_mono_left fun x _ => h x
  rcases List.mem_cons.1 ha with e | e
  ·subst e; simp [List.countP_cons, hp, hq]; omega
  ·have := ih h e hp hq
   simp only [List.countP_cons]
   cases hqb : q b with
   | false => simp; omega
   | true => simp [h b hqb]; omega
def closedL (bs : List Blk) (h : Nat) (l : List Int) (b : Nat) : Prop := (reachL bs (-1))[b]? = some true → ∀ hb : b < bs.length, ∀ x ∈ bs[b].next, x ≠ (h : Int) → x ∈ l → (b : Int) ∈ l
def bstr (l : List UInt8) : ByteArray := ⟨l.toArray⟩
abbrev pstr (l : List UInt8) : PV := .v (.string (bstr l))
@[simp] theorem bstr_size {l : List UInt8} : (bstr l).size = l.length := by simp [bstr, ByteArray.size]
@[simp] theorem bstr_toList {l : List UInt8} : (bstr l).toList = l := by unfold bstr; exact ByteArray.toList_mk l
@[simp] theorem bstr_get {l : List UInt8} {n : Nat} : (bstr l)[n]? = l[n]? := by
 by_cases h : n < l.length
 ·rw [getElem?_pos (bstr l) n (by simpa using h), List.getElem?_eq_getElem h]
  show some ((bstr l).data[n]'_) = _
  simp [bstr]
 ·rw [getElem?_neg (bstr l) n (by simpa using h), List.getElem?_eq_none (by omega)]
@[simp] theorem bstr_get' {l : List UInt8} {n : Nat} (h : n < (bstr l).size) : (bstr l)[n] = l[n]'(by simpa using h) := by
 show (bstr l).data[n]'_ = _
 simp [bstr]
structure FIns where
 op : Int
 a : Int
 b : Int
 c : Int
 d : Int
 text : List UInt8
 list : List Int
def encI (i : FIns) : List PV := [pin i.op, pin i.a, pin i.b, pin i.c, pin i.d, pstr i.text, ints 3 i.list]
@[simp] theorem encI_len (i : FIns) : (encI i).length = 7 := rfl
@[simp] theorem encI_nl (i : FIns) : allNl (encI i) := by simp [encI, ints]
@[simp] theorem encI_noId (i : FIns) : noIdL (encI i) = true := by simp [encI, noIdL, noId]
structure FBody where
 name : List UInt8
 regs : Int
 args : Int
 code : List FIns
def encBo (b : FBody) : List PV := [pstr b.name, pin b.regs, pin b.args, recs 62 encI b.code]
@[simp] theorem encBo_len (b : FBody) : (encBo b).length = 4 := rfl
@[simp] theorem encBo_nl (b : FBody) : allNl (encBo b) := by simp [encBo, recs]
@[simp] theorem recsI_noId {t : TypeId} {l : List FIns} : noId (recs t encI l) = true := by simp [recs, noId]
@[simp] theorem encBo_noId (b : FBody) : noIdL (encBo b) = true := by simp [encBo, noIdL, noId, recs]
structure FCode where
 globals : Int
 bodies : List FBody
def encC (c : FCode) : List PV := [pin c.globals, recs 65 encBo c.bodies]
@[simp] theorem encC_len (c : FCode) : (encC c).length = 2 := rfl
@[simp] theorem recsB_noId {t : TypeId} {l : List FBody} : noId (recs t encBo l) = true := by simp [recs, noId]
@[simp] theorem encC_noId (c : FCode) : noIdL (encC c) = true := by simp [encC, noIdL, noId, recs]
@[simp] theorem encC_nl (c : FCode) : allNl (encC c) := by simp [encC, recs]
theorem cutI {l : List FIns} {i : Nat} (h : i < l.length) : cut (l.flatMap encI) (i * 7) 7 = encI l[i] := cutk encI_len h
theorem cutBo {l : List FBody} {i : Nat} (h : i < l.length) : cut (l.flatMap encBo) (i * 4) 4 = encBo l[i] := cutk encBo_len h
def fewI (l : List FIns) : Bool := l.all fun i => decide (i.list.length ≤ 20) && decide (i.text.length ≤ 60)
def fewB (most : Int) : Int → List FBody → Bool
 | _, [] => true
 | n, b :: l => decide (n + (1 + b.code.length) ≤ most) && decide (b.regs ≤ 60) && decide (b.name.length ≤ 60) && fewI b.code && fewB most (n + (1 + b.code.length)) l
def smallB (c : FCode) (most : Int) : Bool := decide (c.bodies.length ≤ 20) && decide (c.globals ≤ 50) && fewB most 0 c.bodies
def Holds (c : FCode) : Prop := ∀ b ∈ c.bodies, big b.code.length ∧ big b.name.length ∧ ∀ i ∈ b.code, big i.list.length ∧ big i.text.length
theorem fewB_cons {most n : Int} {b : FBody} {l : List FBody} : fewB most n (b :: l) = (decide (n + (1 + b.code.length) ≤ most) && decide (b.regs ≤ 60) && decide (b.name.length ≤ 60) && fewI b.code && fewB most (n + (1 + b.code.length)) l) := rfl
def SmJ1 (c : FCode) (most : Int) (m : Nat) (E : PEnv) (L : List LObj) : Prop := ∃ (i : Nat) (n : Int), i + m = c.bodies.length ∧ L = [] ∧
 Has E [(1, pin most), (5, pin n), (20, recs 65 encBo c.bodies), (21, pin c.bodies.length), (22, pin i)] ∧ fewB most 0 c.bodies = fewB most n (c.bodies.drop i) ∧ 0 ≤ n ∧ n ≤ most
def SmJ2 (c : FCode) (most n : Int) (i : Nat) (code : List FIns) (m : Nat) (E : PEnv) (L : List LObj) : Prop := ∃ k : Nat, k + m = code.length ∧ L = [] ∧
 Has E [(1, pin most), (5, pin n), (20, recs 65 encBo c.bodies), (21, pin c.bodies.length), (22, pin i), (47, recs 62 encI code), (48, pin code.length), (49, pin k)] ∧ fewI code = fewI (code.drop k)
set_option maxRecDepth 8000 in
set_option maxHeartbeats 4000000 in
theorem small_ok {c : FCode} {most : Int} (hc : Holds c) (h0 : 0 ≤ most) (h1 : most ≤ 1000000) : PPd (.fn 23 [] []) [.agg (encC c), pin most] (pbool (smallB c most)) := by
 refine PP_code rfl rfl rfl (by simp) (by simp [noId]) (by simp) (PW_ok _ ?_)
 by_cases hl : (20 : Int) < c.bodies.length
 ·have hs : smallB c most = false := by simp only [smallB, show ¬ c.bodies.length ≤ 20 by omega, decide_false, Bool.false_and]
  rw [hs]
  simp [ir23, encC, recs, hl]
  exact .same rfl
 by_cases hg : (50 : Int) < c.globals
 ·have hs : smallB c most = false := by simp only [smallB, show ¬ c.globals ≤ 50 by omega, decide_false, Bool.false_and, Bool.and_false]
  rw [hs]
  simp [ir23, encC, recs, hl, hg]
  exact .same rfl
 have hs : smallB c most = fewB most 0 c.bodies := by simp only [smallB, show c.bodies.length ≤ 20 by omega, show c.globals ≤ 50 by omega, decide_true, Bool.true_and]
 have hb : big c.bodies.length := by unfold big; omega
 rw [hs]
 simp [ir23, encC, recs, hl, hg]
 refine PC.abs (Abs.dropAll [(1, pin most), (5, pin 0), (20, recs 65 encBo c.bodies), (21, pin c.bodies.length), (22, pin (0 : Nat))] ?_) ?_
 ·simp [recs]
  exact ⟨.same rfl, .same rfl, .same (by simp [noId]), .same rfl, .same rfl⟩
 refine PC_loopG (SmJ1 c most) ?_ (k := c.bodies.length) ⟨0, 0, by simp, rfl, Has.env (by simp), by simp, by omega, h0⟩
 rintro m E L ⟨i, n, him, rfl, ⟨e1, e5, e20, e21, e22, -⟩, hf, hn0, hn1⟩
 by_cases hi : i < c.bodies.length
 case neg =>
  have : i = c.bodies.length := by omega
  subst this
  rw [List.drop_length] at hf
  simp [e1, e5, e20, e21, e22, hf, fewB]
  exact .same rfl
 have hcut := cutBo hi
 have hdr : c.bodies.drop i = c.bodies[i] :: c.bodies.drop (i + 1) := List.drop_eq_getElem_cons hi
 rw [hdr, fewB_cons] at hf
 obtain ⟨q1, q2, q3⟩ := hc _ (List.getElem_mem hi)
 generalize hbd : c.bodies[i] = b at *
 have w1 : IntKind.wrap .i64 (1 + (b.code.length : Int)) = 1 + b.code.length := wrap64 (by unfold big at q1; omega) (by unfold big at q1; omega)
 have w2 : IntKind.wrap .i64 (n + (1 + (b.code.length : Int))) = n + (1 + b.code.length) := wrap64 (by unfold big at q1; omega) (by unfold big at q1; omega)
 have wi := wrap_inc hi hb
 by_cases c1 : most < n + (1 + (b.code.length : Int))
 ·have hs : fewB most 0 c.bodies = false := by rw [hf]; simp only [show ¬ n + (1 + (b.code.length : Int)) ≤ most by omega, decide_false, Bool.false_and]
  rw [hs]
  simp [e1, e5, e20, e21, e22, hi, recs, hcut, hbd, encBo, w1, w2, c1]
  exact .same rfl
 by_cases c2 : (60 : Int) < b.regs
 ·have hs : fewB most 0 c.bodies = false := by rw [hf]; simp only [show ¬ b.regs ≤ 60 by omega, decide_false, Bool.false_and, Bool.and_false]
  rw [hs]
  simp [e1, e5, e20, e21, e22, hi, recs, hcut, hbd, encBo, w1, w2, c1, c2]
  exact .same rfl
 by_cases c3 : (60 : Int) < b.name.length
 ·have hs : fewB most 0 c.bodies = false := by rw [hf]; simp only [show ¬ b.name.length ≤ 60 by omega, decide_false, Bool.false_and, Bool.and_false]
  rw [hs]
  simp [e1, e5, e20, e21, e22, hi, recs, hcut, hbd, encBo, w1, w2, c1, c2, c3]
  exact .same rfl
 simp only [show n + (1 + (b.code.length : Int)) ≤ most by omega, show b.regs ≤ 60 by omega, show b.name.length ≤ 60 by omega, decide_true, Bool.true_and] at hf
 simp [e1, e5, e20, e21, e22, hi, recs, hcut, hbd, encBo, w1, w2, c1, c2, c3]
 refine PC.abs (Abs.dropAll [(1, pin most), (5, pin (n + (1 + (b.code.length : Int)))), (20, recs 65 encBo c.bodies), (21, pin c.bodies.length), (22, pin i), (47, recs 62 encI b.code), (48, pin b.code.length), (49, pin (0 : Nat))] ?_) ?_
 ·simp [e1, e20, e21, e22, recs]
  exact ⟨.same rfl, .same rfl, .same (by simp [noId]), .same rfl, .same rfl, .same (by simp [noId]), .same rfl, .same rfl⟩
 have hbc : big b.code.length := q1
 refine PC_loopG (SmJ2 c most (n + (1 + (b.code.length : Int))) i b.code) ?_ (k := b.code.length) ⟨0, by simp, rfl, Has.env (by simp), by simp⟩
 clear e1 e5 e20 e21 e22
 rintro m2 E L ⟨k, hkm, rfl, ⟨e1, e5, e20, e21, e22, e47, e48, e49, -⟩, hfi⟩
 by_cases hk : k < b.code.length
 case neg =>
  have : k = b.code.length := by omega
  subst this
  rw [List.drop_length] at hfi
  rw [hfi] at hf
  simp [e1, e5, e20, e21, e22, e47, e48, e49, wi]
  refine GoOn.drop [(1, pin most), (5, pin (n + (1 + (b.code.length : Int)))), (20, recs 65 encBo c.bodies), (21, pin c.bodies.length), (22, pin (i + 1 : Nat))] (m - 1) (by omega) ?_ ⟨i + 1, _, by omega, rfl, Has.env (by simp), by rw [hf]; simp [fewI], by omega, by omega⟩
  simp [e1, e5, e20, e21]
  exact ⟨.same rfl, .same rfl, .same (by simp [noId]), .same rfl, .same rfl⟩
 have hcutI := cutI hk
 have hdk : b.code.drop k = b.code[k] :: b.code.drop (k + 1) := List.drop_eq_getElem_cons hk
 rw [hdk] at hfi
 obtain ⟨q4, q5⟩ := q3 _ (List.getElem_mem hk)
 generalize hik : b.code[k] = x at *
 have hfx : fewI (x :: b.code.drop (k + 1)) = (decide (x.list.length ≤ 20) && decide (x.text.length ≤ 60) && fewI (b.code.drop (k + 1))) := rfl
 rw [hfx] at hfi
 have wk := wrap_inc hk hbc
 by_cases d1 : (20 : Int) < x.list.length
 ·have hs : fewB most 0 c.bodies = false := by rw [hf, hfi]; simp only [show ¬ x.list.length ≤ 20 by omega, decide_false, Bool.false_and]
  rw [hs]
  simp [e1, e5, e20, e21, e22, e47, e48, e49, hk, recs, hcutI, hik, encI, ints, d1]
  exact .same rfl
 by_cases d2 : (60 : Int) < x.text.length
 ·have hs : fewB most 0 c.bodies = false := by rw [hf, hfi]; simp only [show ¬ x.text.length ≤ 60 by omega, decide_false, Bool.false_and, Bool.and_false]
  rw [hs]
  simp [e1, e5, e20, e21, e22, e47, e48, e49, hk, recs, hcutI, hik, encI, ints, d1, d2]
  exact .same rfl
 simp only [show x.list.length ≤ 20 by omega, show x.text.length ≤ 60 by omega, decide_true, Bool.true_and] at hfi
 simp [e1, e5, e20, e21, e22, e47, e48, e49, hk, recs, hcutI, hik, encI, ints, d1, d2, wk]
 refine GoOn.drop [(1, pin most), (5, pin (n + (1 + (b.code.length : Int)))), (20, recs 65 encBo c.bodies), (21, pin c.bodies.length), (22, pin i), (47, recs 62 encI b.code), (48, pin b.code.length), (49, pin (k + 1 : Nat))] (m2 - 1) (by omega) ?_ ⟨k + 1, by omega, rfl, Has.env (by simp), hfi⟩
 simp [e1, e5, e20, e21, e22, e47, e48, recs]
 exact ⟨.same rfl, .same rfl, .same (by simp [noId]), .same rfl, .same rfl, .same (by simp [noId]), .same rfl, .same rfl⟩
structure FRule where
 word : List UInt8
 a : Int
 b : Int
 c : Int
 d : Int
 texts : List UInt8
def encR (r : FRule) : List PV := [pstr r.word, pin r.a, pin r.b, pin r.c, pin r.d, pstr r.texts]
@[simp] theorem encR_len (r : FRule) : (encR r).length = 6 := rfl
@[simp] theorem encR_nl (r : FRule) : allNl (encR r) := by simp [encR]
@[simp] theorem encR_noId (r : FRule) : noIdL (encR r) = true := by simp [encR, noIdL, noId]
def rulesL : List FRule := [
 ⟨[], 0, 0, 0, 0, []⟩,
 ⟨[115, 101, 116], 3, 5, 0, 0, []⟩,
 ⟨[99, 111, 112, 121], 3, 1, 0, 0, []⟩,
 ⟨[117, 110, 97, 114, 121], 3, 1, 0, 0, [45, 32, 33]⟩,
 ⟨[98, 105, 110, 97, 114, 121], 3, 1, 1, 0, [43, 32, 45, 32, 42, 32, 47, 32, 37, 32, 61, 61, 32, 33, 61, 32, 60, 32, 60, 61, 32, 62, 32, 62, 61, 32, 109, 105, 110, 32, 109, 97, 120, 32, 38, 38, 32, 124, 124]⟩,
 ⟨[103, 101, 116], 3, 6, 0, 0, []⟩,
 ⟨[112, 117, 116], 6, 1, 0, 0, []⟩,
 ⟨[114, 97, 110, 103, 101], 3, 1, 1, 0, []⟩,
 ⟨[98, 121], 3, 1, 1, 0, []⟩,
 ⟨[99, 111, 117, 110, 116], 3, 1, 1, 0, []⟩,
 ⟨[100, 111, 109, 97, 105, 110], 3, 0, 0, 0, []⟩,
 ⟨[109, 97, 112], 3, 1, 10, 2, []⟩,
 ⟨[97, 114, 114, 97, 121], 3, 1, 0, 0, []⟩,
 ⟨[99, 101, 108, 108], 3, 0, 0, 0, []⟩,
 ⟨[97, 116, 111, 109, 105, 99], 3, 0, 0, 0, []⟩,
 ⟨[102, 105, 101, 108, 100], 3, 1, 0, 0, [115, 105, 122, 101, 32, 108, 111, 119, 32, 104, 105, 103, 104, 32, 115, 116, 114, 105, 100, 101, 32, 100, 111, 109, 97, 105, 110]⟩,
 ⟨[110, 116, 104], 3, 1, 9, 1, []⟩,
 ⟨[108, 111, 97, 100], 3, 1, 0, 0, []⟩,
 ⟨[115, 116, 111, 114, 101], 1, 1, 0, 0, []⟩,
 ⟨[106, 117, 109, 112], 0, 0, 7, 0, []⟩,
 ⟨[105, 102], 1, 0, 7, 0, []⟩,
 ⟨[99, 97, 108, 108], 4, 8, 0, 0, []⟩,
 ⟨[114, 101, 116, 117, 114, 110], 2, 0, 0, 0, []⟩,
 ⟨[104, 101, 114, 101], 3, 0, 0, 0, []⟩,
 ⟨[108, 111, 99, 97, 108, 101, 115], 3, 0, 0, 0, []⟩,
 ⟨[103, 111], 1, 0, 0, 0, []⟩,
 ⟨[99, 111, 117, 110, 116, 101, 114], 3, 0, 0, 0, []⟩,
 ⟨[115, 112, 97, 119, 110], 2, 8, 0, 0, []⟩,
 ⟨[119, 97, 105, 116], 1, 0, 0, 0, []⟩,
 ⟨[115, 99, 111, 112, 101], 3, 0, 0, 0, []⟩,
 ⟨[117, 110, 115, 99, 111, 112, 101], 0, 0, 0, 0, []⟩,
 ⟨[112, 105, 101, 99, 101, 115], 3, 1, 0, 0, []⟩,
 ⟨[112, 105, 101, 99, 101], 3, 1, 9, 1, []⟩,
 ⟨[105, 110, 112, 105, 101, 99, 101], 3, 1, 9, 1, []⟩,
 ⟨[111, 110, 99, 101, 108, 108], 4, 1, 2, 0, [114, 101, 97, 100, 70, 69, 32, 114, 101, 97, 100, 70, 70, 32, 114, 101, 97, 100, 88, 88, 32, 119, 114, 105, 116, 101, 69, 70, 32, 119, 114, 105, 116, 101, 70, 70, 32, 119, 114, 105, 116, 101, 88, 70, 32, 114, 101, 115, 101, 116, 32, 105, 115, 70, 117, 108, 108]⟩,
 ⟨[111, 110, 97, 116, 111, 109], 4, 1, 0, 0, [114, 101, 97, 100, 32, 119, 114, 105, 116, 101, 32, 97, 100, 100, 32, 102, 101, 116, 99, 104, 65, 100, 100, 32, 101, 120, 99, 104, 97, 110, 103, 101, 32, 99, 111, 109, 112, 97, 114, 101, 65, 110, 100, 83, 119, 97, 112]⟩,
 ⟨[119, 114, 105, 116, 101], 0, 0, 0, 0, []⟩,
 ⟨[97, 115, 115, 101, 114, 116], 1, 0, 0, 0, []⟩]
theorem rules_ok : PPd (.fn 79 [] []) [] (.agg (rulesL.flatMap encR)) := PP_run (n := 100) FD_ext rfl (by kernel_rfl)
def ruleN (n : Nat) : FRule := rulesL.getD n ⟨[], 0, 0, 0, 0, []⟩
def strs (t : TypeId) (l : List (List UInt8)) : PV := .fz t l.length (l.map pstr)
@[simp] theorem strs_noId {t : TypeId} {l : List (List UInt8)} : noId (strs t l) = true := by simp [strs, noId]
def fldT : List (List UInt8) := [[48, 48, 48, 48], [114, 110, 48, 48], [114, 114, 48, 48], [114, 114, 48, 48], [114, 114, 114, 48], [114, 103, 48, 48], [103, 114, 48, 48], [114, 114, 114, 48], [114, 114, 114, 48], [114, 114, 114, 48], [114, 48, 48, 48], [114, 114, 107, 82], [114, 114, 48, 48], [114, 48, 48, 48], [114, 48, 48, 48], [114, 114, 48, 48], [114, 114, 100, 114], [114, 114, 48, 48], [114, 114, 48, 48], [48, 48, 112, 48], [114, 48, 112, 48], [82, 98, 48, 48], [82, 48, 48, 48], [114, 48, 48, 48], [114, 48, 48, 48], [114, 48, 48, 48], [114, 48, 48, 48], [82, 98, 48, 48], [114, 48, 48, 48], [114, 48, 48, 48], [48, 48, 48, 48], [114, 114, 48, 48], [114, 114, 100, 114], [114, 114, 100, 114], [82, 114, 82, 48], [82, 114, 48, 48], [48, 48, 48, 48], [114, 48, 48, 48]]
def fldN (n : Nat) : List UInt8 := fldT.getD n []
def wordT : List (List UInt8) := [[], [115, 101, 116], [99, 111, 112, 121], [117, 110, 97, 114, 121], [98, 105, 110, 97, 114, 121], [103, 101, 116], [112, 117, 116], [114, 97, 110, 103, 101], [98, 121], [99, 111, 117, 110, 116], [100, 111, 109, 97, 105, 110], [109, 97, 112], [97, 114, 114, 97, 121], [99, 101, 108, 108], [97, 116, 111, 109, 105, 99], [102, 105, 101, 108, 100], [110, 116, 104], [108, 111, 97, 100], [115, 116, 111, 114, 101], [106, 117, 109, 112], [105, 102], [99, 97, 108, 108], [114, 101, 116, 117, 114, 110], [104, 101, 114, 101], [108, 111, 99, 97, 108, 101, 115], [103, 111], [99, 111, 117, 110, 116, 101, 114], [115, 112, 97, 119, 110], [119, 97, 105, 116], [115, 99, 111, 112, 101], [117, 110, 115, 99, 111, 112, 101], [112, 105, 101, 99, 101, 115], [112, 105, 101, 99, 101], [105, 110, 112, 105, 101, 99, 101], [111, 110, 99, 101, 108, 108], [111, 110, 97, 116, 111, 109], [119, 114, 105, 116, 101], [97, 115, 115, 101, 114, 116]]
theorem words_ok : PPd (.fn 85 [] []) [] (strs 9 wordT) := PP_run (n := 100) FD_ext rfl (by kernel_rfl)
def textT : List (List (List UInt8)) := [[], [], [], [[45], [33]], [[43], [45], [42], [47], [37], [61, 61], [33, 61], [60], [60, 61], [62], [62, 61], [109, 105, 110], [109, 97, 120], [38, 38], [124, 124]], [], [], [], [], [], [], [], [], [], [], [[115, 105, 122, 101], [108, 111, 119], [104, 105, 103, 104], [115, 116, 114, 105, 100, 101], [100, 111, 109, 97, 105, 110]], [], [], [], [], [], [], [], [], [], [], [], [], [], [], [], [], [], [], [[114, 101, 97, 100, 70, 69], [114, 101, 97, 100, 70, 70], [114, 101, 97, 100, 88, 88], [119, 114, 105, 116, 101, 69, 70], [119, 114, 105, 116, 101, 70, 70], [119, 114, 105, 116, 101, 88, 70], [114, 101, 115, 101, 116], [105, 115, 70, 117, 108, 108]], [[114, 101, 97, 100], [119, 114, 105, 116, 101], [97, 100, 100], [102, 101, 116, 99, 104, 65, 100, 100], [101, 120, 99, 104, 97, 110, 103, 101], [99, 111, 109, 112, 97, 114, 101, 65, 110, 100, 83, 119, 97, 112]], [], []]
def textN (n : Nat) : List (List UInt8) := textT.getD n []
theorem flds_run : ∀ n : Nat, n < 38 → prunF FD 100 83 [pin n] = some (pstr (fldN n))
 | 0, _ => by kernel_rfl
 | 1, _ => by kernel_rfl
 | 2, _ => by kernel_rfl
 | 3, _ => by kernel_rfl
 | 4, _ => by kernel_rfl
 | 5, _ => by kernel_rfl
 | 6, _ => by kernel_rfl
 | 7, _ => by kernel_rfl
 | 8, _ => by kernel_rfl
 | 9, _ => by kernel_rfl
 | 10, _ => by kernel_rfl
 | 11, _ => by kernel_rfl
 | 12, _ => by kernel_rfl
 | 13, _ => by kernel_rfl
 | 14, _ => by kernel_rfl
 | 15, _ => by kernel_rfl
 | 16, _ => by kernel_rfl
 | 17, _ => by kernel_rfl
 | 18, _ => by kernel_rfl
 | 19, _ => by kernel_rfl
 | 20, _ => by kernel_rfl
 | 21, _ => by kernel_rfl
 | 22, _ => by kernel_rfl
 | 23, _ => by kernel_rfl
 | 24, _ => by kernel_rfl
 | 25, _ => by kernel_rfl
 | 26, _ => by kernel_rfl
 | 27, _ => by kernel_rfl
 | 28, _ => by kernel_rfl
 | 29, _ => by kernel_rfl
 | 30, _ => by kernel_rfl
 | 31, _ => by kernel_rfl
 | 32, _ => by kernel_rfl
 | 33, _ => by kernel_rfl
 | 34, _ => by kernel_rfl
 | 35, _ => by kernel_rfl
 | 36, _ => by kernel_rfl
 | 37, _ => by kernel_rfl
 | n + 38, h => absurd h (by omega)
theorem flds_ok {n : Nat} (h : n < 38) : PPd (.fn 83 [] []) [pin n] (pstr (fldN n)) := PP_run FD_ext rfl (flds_run n h)
theorem texts_run : ∀ n : Nat, n < 38 → prunF FD 100 98 [pin n] = some (if (textN n).isEmpty then .v (.slice none 0 0) else strs 9 (textN n))
 | 0, _ => by kernel_rfl
 | 1, _ => by kernel_rfl
 | 2, _ => by kernel_rfl
 | 3, _ => by kernel_rfl
 | 4, _ => by kernel_rfl
 | 5, _ => by kernel_rfl
 | 6, _ => by kernel_rfl
 | 7, _ => by kernel_rfl
 | 8, _ => by kernel_rfl
 | 9, _ => by kernel_rfl
 | 10, _ => by kernel_rfl
 | 11, _ => by kernel_rfl
 | 12, _ => by kernel_rfl
 | 13, _ => by kernel_rfl
 | 14, _ => by kernel_rfl
 | 15, _ => by kernel_rfl
 | 16, _ => by kernel_rfl
 | 17, _ => by kernel_rfl
 | 18, _ => by kernel_rfl
 | 19, _ => by kernel_rfl
 | 20, _ => by kernel_rfl
 | 21, _ => by kernel_rfl
 | 22, _ => by kernel_rfl
 | 23, _ => by kernel_rfl
 | 24, _ => by kernel_rfl
 | 25, _ => by kernel_rfl
 | 26, _ => by kernel_rfl
 | 27, _ => by kernel_rfl
 | 28, _ => by kernel_rfl
 | 29, _ => by kernel_rfl
 | 30, _ => by kernel_rfl
 | 31, _ => by kernel_rfl
 | 32, _ => by kernel_rfl
 | 33, _ => by kernel_rfl
 | 34, _ => by kernel_rfl
 | 35, _ => by kernel_rfl
 | 36, _ => by kernel_rfl
 | 37, _ => by kernel_rfl
 | n + 38, h => absurd h (by omega)
theorem texts_ok {n : Nat} (h : n < 38) : PPd (.fn 98 [] []) [pin n] (if (textN n).isEmpty then .v (.slice none 0 0) else strs 9 (textN n)) := PP_run FD_ext rfl (texts_run n h)
theorem split_run : ∀ n : Nat, n < 38 → (textN n).isEmpty = false → prunF FD 200 92 [pstr (ruleN n).texts] = some (strs 9 (textN n))
 | 0, _, h => by cases h
 | 1, _, h => by cases h
 | 2, _, h => by cases h
 | 3, _, h => by kernel_rfl
 | 4, _, h => by kernel_rfl
 | 5, _, h => by cases h
 | 6, _, h => by cases h
 | 7, _, h => by cases h
 | 8, _, h => by cases h
 | 9, _, h => by cases h
 | 10, _, h => by cases h
 | 11, _, h => by cases h
 | 12, _, h => by cases h
 | 13, _, h => by cases h
 | 14, _, h => by cases h
 | 15, _, h => by kernel_rfl
 | 16, _, h => by cases h
 | 17, _, h => by cases h
 | 18, _, h => by cases h
 | 19, _, h => by cases h
 | 20, _, h => by cases h
 | 21, _, h => by cases h
 | 22, _, h => by cases h
 | 23, _, h => by cases h
 | 24, _, h => by cases h
 | 25, _, h => by cases h
 | 26, _, h => by cases h
 | 27, _, h => by cases h
 | 28, _, h => by cases h
 | 29, _, h => by cases h
 | 30, _, h => by cases h
 | 31, _, h => by cases h
 | 32, _, h => by cases h
 | 33, _, h => by cases h
 | 34, _, h => by kernel_rfl
 | 35, _, h => by kernel_rfl
 | 36, _, h => by cases h
 | 37, _, h => by cases h
 | n + 38, h, _ => absurd h (by omega)
theorem split_ok {n : Nat} (h : n < 38) (he : (textN n).isEmpty = false) : PPd (.fn 92 [] []) [pstr (ruleN n).texts] (strs 9 (textN n)) := PP_run FD_ext (by simp [noIdL, noId]) (split_run n h he)
@[simp] theorem encR_one (r : FRule) : allOne (encR r) := by simp [encR]
@[simp] theorem encI_one (r : FIns) : allOne (encI r) := by simp [encI, ints]
@[simp] theorem encBo_one (r : FBody) : allOne (encBo r) := by simp [encBo, recs]
@[simp] theorem encC_one (r : FCode) : allOne (encC r) := by simp [encC, recs]
theorem findIdx_first {α : Type} {p : α → Bool} {l : List α} {i : Nat} (h : i < l.length) (h1 : ∀ x ∈ l.take i, p x = false) (h2 : p l[i] = true) : l.findIdx? p = some i := by
 rw [List.findIdx?_eq_some_iff_getElem]
 refine ⟨h, h2, fun j hj => ?_⟩
 have := h1 l[j] (by rw [List.mem_take_iff_getElem]; exact ⟨j, by omega, rfl⟩)
 simp [this]
def firstI {α : Type} (p : α → Bool) (l : List α) : Int := match l.findIdx? p with | some i => (i : Int) | none => -1
theorem firstI_at {α : Type} {p : α → Bool} {l : List α} {i : Nat} (h : i < l.length) (h1 : ∀ x ∈ l.take i, p x = false) (h2 : p l[i] = true) : firstI p l = i := by
 simp only [firstI, findIdx_first h h1 h2]
theorem firstI_none {α : Type} {p : α → Bool} {l : List α} (h : ∀ x ∈ l, p x = false) : firstI p l = -1 := by
 have : l.findIdx? p = none := by rw [List.findIdx?_eq_none_iff]; exact h
 simp only [firstI, this]
theorem firstI_any {α : Type} {p : α → Bool} {l : List α} : decide (0 ≤ firstI p l) = l.any p := by
 cases h : l.any p
 ·rw [List.any_eq_false] at h
  rw [firstI_none (fun x hx => by simpa using h x hx)]; rfl
 ·rw [List.any_eq_true] at h
  obtain ⟨x, hx, hp⟩ := h
  cases hf : l.findIdx? p with
  | none => rw [List.findIdx?_eq_none_iff] at hf; rw [hf x hx] at hp; cases hp
  | some i => simp [firstI, hf]
theorem take_next {α : Type} {p : α → Bool} {l : List α} {i : Nat} (hi : i < l.length) (h1 : ∀ x ∈ l.take i, p x = false) (h2 : p l[i] = false) : ∀ x ∈ l.take (i + 1), p x = false := by
 intro x hx
 rw [List.take_succ_eq_append_getElem hi] at hx
 rcases List.mem_append.1 hx with h | h
 ·exact h1 x h
 ·rw [List.mem_singleton.1 h]; exact h2
def kindB (c : FCode) (b : FBody) (k n : Int) : Bool :=
 if k = 0 then decide (n = 0) else if k = 1 ∨ k = 3 then decide (0 ≤ n) && decide (n < b.regs) else if k = 2 ∨ k = 4 then decide (-1 ≤ n) && decide (n < b.regs)
 else if k = 6 then decide (0 ≤ n) && decide (n < c.globals) else if k = 7 then decide (0 ≤ n) && decide (n < b.code.length) else if k = 8 then decide (0 ≤ n) && decide (n < c.bodies.length)
 else if k = 9 then decide (n = 0) || decide (n = 1) else if k = 10 then decide (1 ≤ n) && decide (n ≤ 4) else true
set_option maxRecDepth 8000 in
set_option maxHeartbeats 4000000 in
theorem field_ok {c : FCode} {b : FBody} {k n : Int} (h0 : 0 ≤ k) (h1 : k ≤ 10) : PPd (.fn 90 [] []) [.agg (encC c), .agg (encBo b), pin k, pin n] (pbool (kindB c b k n)) := by
 refine PP_code rfl rfl rfl (by simp) (by simp [noId]) (by simp) (PW_ok _ ?_)
 have hk : k = 0 ∨ k = 1 ∨ k = 2 ∨ k = 3 ∨ k = 4 ∨ k = 5 ∨ k = 6 ∨ k = 7 ∨ k = 8 ∨ k = 9 ∨ k = 10 := by omega
 rcases hk with rfl | rfl | rfl | rfl | rfl | rfl | rfl | rfl | rfl | rfl | rfl
 ·simp [ir90, kindB]; exact .same rfl
 ·by_cases h : 0 ≤ n <;> simp [ir90, kindB, encC, encBo, recs, h] <;> exact .same rfl
 ·by_cases h : -1 ≤ n <;> simp [ir90, kindB, encC, encBo, recs, h] <;> exact .same rfl
 ·by_cases h : 0 ≤ n <;> simp [ir90, kindB, encC, encBo, recs, h] <;> exact .same rfl
 ·by_cases h : -1 ≤ n <;> simp [ir90, kindB, encC, encBo, recs, h] <;> exact .same rfl
 ·simp [ir90, kindB]; exact .same rfl
 ·by_cases h : 0 ≤ n <;> simp [ir90, kindB, encC, encBo, recs, h] <;> exact .same rfl
 ·by_cases h : 0 ≤ n <;> simp [ir90, kindB, encC, encBo, recs, h] <;> exact .same rfl
 ·by_cases h : 0 ≤ n <;> simp [ir90, kindB, encC, encBo, recs, h] <;> exact .same rfl
 ·by_cases h : n = 0 <;> simp [ir90, kindB, encC, encBo, recs, h] <;> exact .same rfl
 ·by_cases h : 1 ≤ n <;> simp [ir90, kindB, encC, encBo, recs, h] <;> exact .same rfl
theorem field1_ok {c : FCode} {b : FBody} {n : Int} : PPd (.fn 95 [] [.fp (encC c), .fp (encBo b)]) [pin n] (pbool (!kindB c b 1 n)) := by
 refine PP_code rfl rfl rfl (by simp [noId]) (by simp [noId]) (by simp) (PW_ok _ ?_)
 simp [ir95]
 refine (field_ok (c := c) (b := b) (k := 1) (n := n) (by omega) (by omega)).runk ?_
 simp
 exact .same rfl
theorem ruleOf_ok {n : Nat} (h0 : 1 ≤ n) (h1 : n ≤ 37) : PPd (.fn 65 [] []) [pin n] (.tup [.agg (encR (ruleN n)), pbool true]) := by
 refine PP_code rfl rfl rfl (by simp) (by simp [noId]) (by simp [noId, noIdL]) (PW_ok _ ?_)
 have g0 : ¬ (n : Int) < 1 := by omega
 have g1 : ¬ (37 : Int) < n := by omega
 have hl : n < rulesL.length := by show n < 38; omega
 have hcut : cut (rulesL.flatMap encR) (n * 6) 6 = encR (ruleN n) := by
  rw [cutk encR_len hl]; simp [ruleN, List.getD_eq_getElem?_getD, hl]
 have g2 : (n : Int) < 38 := by omega
 have hps : psplice [PV.v (S []), PV.v (I 0), PV.v (I 0), PV.v (I 0), PV.v (I 0), PV.v (S [])] 0 (encR (ruleN n)) = encR (ruleN n) := psplice_full rfl
 simp [ir65, g0, g1]
 refine rules_ok.runk ?_
 have hcc : cut (encR (ruleN n)) 0 6 = encR (ruleN n) := cut_all rfl
 simp [g2, hcut, hps, hcc]
 exact .same (by simp [noId, noIdL])
theorem ruleOf_no {n : Int} (h : n < 1 ∨ 37 < n) : PPd (.fn 65 [] []) [pin n] (.tup [.agg (encR ⟨[], 0, 0, 0, 0, []⟩), pbool false]) := by
 refine PP_code rfl rfl rfl (by simp) (by simp [noId]) (by simp [noId, noIdL]) (PW_ok _ ?_)
 by_cases h0 : n < 1
 ·simp [ir65, h0, encR]
  exact .same rfl
 ·have h1 : 37 < n := by omega
  simp [ir65, h0, h1, encR]
  exact .same rfl
def rowOf (r : FRule) (i : FIns) : List PV := [pin r.a, pin i.a, pin r.b, pin i.b, pin r.c, pin i.c, pin r.d, pin i.d]
theorem ruleFields_ok {r : FRule} {i : FIns} : PPd (.fn 66 [] []) [.agg (encR r), .agg (encI i)] (.agg (rowOf r i)) := by
 refine PP_code rfl rfl rfl (by simp) (by simp [noId]) (by simp [noId, noIdL, rowOf]) (PW_ok _ ?_)
 simp [ir66, encR, encI, ints, psplice, rowOf]
 exact .same rfl
theorem hasS_ok {t : TypeId} {l : List (List UInt8)} {s : List UInt8} (hb : big l.length) : PPd (.fn 84 [] []) [strs t l, pstr s] (pbool (decide (s ∈ l))) := by
 refine PP_code rfl rfl rfl (by simp) (by simp [noId]) (by simp) (PW_ok _ ?_)
 simp [ir84, strs]
 refine PC_loopG (fun m E L => ∃ i : Nat, i + m = l.length ∧ L = [] ∧ Has E [(0, strs t l), (1, pstr s), (5, pin i)] ∧ s ∉ l.take i) ?_ (k := l.length) ⟨0, by simp, rfl, by simp [strs], by simp⟩
 rintro m E L ⟨i, him, rfl, ⟨e0, e1, e5, -⟩, hn⟩
 by_cases hi : i < l.length
 ·by_cases hx : l[i] = s
  ·simp [e0, e1, e5, hi, strs, cut1 hi, arithStr, hx]
   exact .decT (hx ▸ List.getElem_mem hi)
  ·simp [e0, e1, e5, hi, strs, cut1 hi, arithStr, hx, wrap_inc hi hb]
   refine GoOn.same (m - 1) (by omega) ⟨i + 1, by omega, rfl, by simp [e0, e1, strs], ?_⟩
   rw [List.take_succ_eq_append_getElem hi]
   simp only [List.mem_append, List.mem_singleton, not_or]
   exact ⟨hn, fun e => hx e.symm⟩
 ·have hie : i = l.length := by omega
  subst hie
  rw [List.take_length] at hn
  simp [e0, e1, e5, strs]
  exact .decF hn
def IxS (t : TypeId) (l : List (List UInt8)) (s : List UInt8) (m : Nat) (E : PEnv) (L : List LObj) : Prop := ∃ i : Nat, i + m = l.length ∧ L = [] ∧ Has E [(0, strs t l), (1, pstr s), (6, strs t l), (7, pin l.length), (8, pin i)] ∧ ∀ x ∈ l.take i, (fun x => decide (x = s)) x = false
theorem indexS_ok {t : TypeId} {l : List (List UInt8)} {s : List UInt8} (hb : big l.length) : PPd (.fn 101 [] []) [strs t l, pstr s] (pin (firstI (fun x => decide (x = s)) l)) := by
 refine PP_code rfl rfl rfl (by simp) (by simp [noId]) (by simp) (PW_ok _ ?_)
 simp [ir101, strs]
 refine PC_loopG (IxS t l s) ?_ (k := l.length) ⟨0, by simp, rfl, by simp [strs], fun x hx => by simp at hx⟩
 rintro m E L ⟨i, him, rfl, ⟨e0, e1, e6, e7, e8, -⟩, hn⟩
 by_cases hi : i < l.length
 ·by_cases hx : l[i] = s
  ·rw [firstI_at hi hn (by simp [hx])]
   simp [e0, e1, e6, e7, e8, hi, strs, cut1 hi, arithStr, hx]
   exact .same rfl
  ·simp [e0, e1, e6, e7, e8, hi, strs, cut1 hi, arithStr, hx, Ne.symm hx, wrap_inc hi hb]
   exact GoOn.same (m - 1) (by omega) ⟨i + 1, by omega, rfl, by simp [e0, e1, e6, e7, strs], take_next (p := fun x => decide (x = s)) hi hn (by simp [hx])⟩
 ·have hie : i = l.length := by omega
  subst hie
  rw [List.take_length] at hn
  rw [firstI_none hn]
  simp [e0, e1, e6, e7, e8, strs]
  exact .same rfl
theorem containsS_ok {t : TypeId} {l : List (List UInt8)} {s : List UInt8} (hb : big l.length) : PPd (.fn 91 [] []) [strs t l, pstr s] (pbool (decide (s ∈ l))) := by
 refine PP_code rfl rfl rfl (by simp) (by simp [noId]) (by simp) (PW_ok _ ?_)
 simp [ir91]
 refine (indexS_ok hb).runk ?_
 have h : decide (0 ≤ firstI (fun x => decide (x = s)) l) = decide (s ∈ l) := by
  rw [firstI_any]
  by_cases hm : s ∈ l
  ·simp [hm]
  ·simp only [hm, decide_false, List.any_eq_false, decide_eq_true_eq]
   rintro x hx rfl; exact hm hx
 simp
 exact .eq (by rw [h]) rfl
theorem indexI_ok {t : TypeId} {l : List Int} {fv : PV} {p : Int → Bool} (hb : big l.length) (hfv : noId fv = true) (hp : ∀ x ∈ l, PPd fv [pin x] (pbool (p x))) : PPd (.fn 80 [] []) [ints t l, fv] (pin (firstI p l)) := by
 refine PP_code rfl rfl rfl (by simp) (by simp [noId, hfv]) (by simp) (PW_ok _ ?_)
 simp [ir80, ints]
 refine PC_loopG (fun m E L => ∃ i : Nat, i + m = l.length ∧ L = [] ∧ Has E [(0, ints t l), (1, fv), (7, pin l.length), (8, pin i)] ∧ ∀ x ∈ l.take i, p x = false) ?_ (k := l.length) ⟨0, by simp, rfl, by simp [ints], by simp⟩
 rintro m E L ⟨i, him, rfl, ⟨e0, e1, e7, e8, -⟩, hn⟩
 by_cases hi : i < l.length
 ·simp [e0, e1, e7, e8, hi, ints, cut1 hi]
  refine (hp _ (List.getElem_mem hi)).runk ?_
  cases hx : p l[i] with
  | true =>
   rw [firstI_at hi hn hx]
   simp [e0, e1, e7, e8]
   exact .same rfl
  | false =>
   simp [e0, e1, e7, e8, wrap_inc hi hb]
   exact GoOn.same (m - 1) (by omega) ⟨i + 1, by omega, rfl, by simp [e0, e1, e7, ints], take_next hi hn hx⟩
 ·have hie : i = l.length := by omega
  subst hie
  rw [List.take_length] at hn
  rw [firstI_none hn]
  simp [e0, e1, e7, e8, ints]
  exact .same rfl
theorem containsI_ok {t : TypeId} {l : List Int} {fv : PV} {p : Int → Bool} (hb : big l.length) (hfv : noId fv = true) (hp : ∀ x ∈ l, PPd fv [pin x] (pbool (p x))) : PPd (.fn 94 [] []) [ints t l, fv] (pbool (l.any p)) := by
 refine PP_code rfl rfl rfl (by simp) (by simp [noId, hfv]) (by simp) (PW_ok _ ?_)
 simp [ir94]
 refine (indexI_ok hb hfv hp).runk ?_
 simp
 exact .eq (by rw [firstI_any]) rfl
theorem lit_toList {a : Array UInt8} : (ByteArray.mk a).toList = a.toList := by rw [ByteArray.toList_eq]
def zerosN (l : List UInt8) : Nat := l.count 0
theorem count_ok {s : List UInt8} : PPd (.fn 110 [] []) [pstr s, .v (.int .u8 0)] (pin (zerosN s)) := by
 intro q L A ρ ζ H dv dargs gz hr hv ha
 obtain ⟨a', c', rfl, h1, h2⟩ := hv.fn_inv
 have e1 := h1.nil_left
 have e2 := h2.nil_left
 cases ha with
 | cons ha1 ha2 =>
  cases ha2 with
  | cons ha2 ha3 =>
   cases ha3
   obtain ⟨rfl, _⟩ := ha1.v_inv
   obtain ⟨rfl, _⟩ := ha2.v_inv
   refine ⟨.int .i64 (zerosN s), H, ⟨1, fun m hm => ?_⟩, ρ, ζ, pin (zerosN s), L, .refl _ _, .refl _, hr, .v rfl, Only.refl _ _, fun _ => Only.refl _ _, Nat.le_refl _, rfl, rfl⟩
   obtain ⟨k, rfl⟩ : ∃ k, m = k + 1 := ⟨m - 1, by omega⟩
   have hx : XA 110 = none := by unfold XA; rw [if_neg (by decide)]
   have hn : XN 110 = some xCount := by unfold XN; rw [if_pos rfl]
   simp only [den, hx, hn, e1, e2]
   rfl
set_option maxRecDepth 8000 in
set_option maxHeartbeats 4000000 in
theorem strCount_ok {s : List UInt8} : PPd (.fn 104 [] []) [pstr s, pstr [0]] (pin (zerosN s)) := by
 refine PP_code rfl rfl rfl (by simp) (by simp [noId]) (by simp) (PW_ok _ ?_)
 simp [ir104]
 refine count_ok.runk ?_
 simp
 exact .same rfl
def ZrJ (s : List UInt8) (m : Nat) (E : PEnv) (L : List LObj) : Prop := ∃ i : Nat, i + m = s.length ∧ L = [] ∧ Has E [(0, pstr s), (3, pin (zerosN (s.take i))), (4, pin i)]
set_option maxRecDepth 8000 in
set_option maxHeartbeats 4000000 in
theorem zeroes_ok {s : List UInt8} (hb : big s.length) : PPd (.fn 106 [] []) [pstr s] (pin (zerosN s)) := by
 refine PP_code rfl rfl rfl (by simp) (by simp [noId]) (by simp) (PW_ok _ ?_)
 simp [ir106]
 refine PC_loopG (ZrJ s) ?_ (k := s.length) ⟨0, by simp, rfl, by simp [zerosN]⟩
 rintro m E L ⟨i, him, rfl, ⟨e0, e3, e4, -⟩⟩
 by_cases hi : i < s.length
 ·have hg : s[i]? = some s[i] := List.getElem?_eq_getElem hi
  have hz : zerosN (s.take i) ≤ i := Nat.le_trans (List.count_le_length) (by simp; omega)
  have hw : IntKind.wrap .i64 ((zerosN (s.take i) : Int) + 1) = ((zerosN (s.take i) + 1 : Nat) : Int) := wrap_inc (n := s.length) (by omega) hb
  have ht : zerosN (s.take (i + 1)) = zerosN (s.take i) + if s[i] = 0 then 1 else 0 := by
   unfold zerosN
   rw [List.take_succ_eq_append_getElem hi, List.count_append, List.count_singleton]
   by_cases h : s[i] = 0 <;> simp [h]
  by_cases h0 : s[i] = 0
  ·have h0' : s[i].toNat = 0 := by rw [h0]; rfl
   rw [if_pos h0] at ht
   simp [e0, e3, e4, hi, hg, h0, h0', hw, wrap_inc hi hb]
   exact GoOn.same (m - 1) (by omega) ⟨i + 1, by omega, rfl, by simp [e0, ht]⟩
  ·have h0' : ¬ s[i].toNat = 0 := fun e => h0 (UInt8.toNat_inj.1 (by simpa using e))
   rw [if_neg h0] at ht
   simp [e0, e3, e4, hi, hg, h0, h0', hw, wrap_inc hi hb]
   exact GoOn.same (m - 1) (by omega) ⟨i + 1, by omega, rfl, by simp [e0, e3, ht]⟩
 ·have hie : i = s.length := by omega
  subst hie
  simp [e0, e3, e4]
  exact .same rfl
def readT : List UInt8 := [114, 101, 97, 100]
def casT : List UInt8 := [99, 111, 109, 112, 97, 114, 101, 65, 110, 100, 83, 119, 97, 112]
def lenS (c : FCode) (i : FIns) : Int × Int :=
 if i.op = 10 ∨ i.op = 17 ∨ i.op = 18 then (1, 2)
 else if i.op = 21 ∨ i.op = 27 then (match c.bodies[i.b.toNat]? with | some b => (b.args, b.args) | none => (0, 0))
 else if i.op = 33 then (1, 1)
 else if i.op = 35 then (if i.text = readT then (0, 0) else if i.text = casT then (2, 2) else (1, 1))
 else if i.op = 36 then ((zerosN i.text : Int), (zerosN i.text : Int))
 else (0, 0)
def pairI (p : Int × Int) : PV := .tup [pin p.1, pin p.2]
set_option maxRecDepth 8000 in
set_option maxHeartbeats 4000000 in
theorem lengths_ok {c : FCode} {i : FIns} (hb : (i.op = 21 ∨ i.op = 27) → 0 ≤ i.b ∧ i.b < c.bodies.length) : PPd (.fn 93 [] []) [.agg (encC c), .agg (encI i)] (pairI (lenS c i)) := by
 refine PP_code rfl rfl rfl (by simp) (by simp [noId]) (by simp [pairI, noId, noIdL]) (PW_ok _ ?_)
 by_cases h10 : i.op = 10
 ·simp [ir93, encC, encI, recs, ints, h10, lenS, pairI]; exact .same rfl
 by_cases h17 : i.op = 17
 ·simp [ir93, encC, encI, recs, ints, h10, h17, lenS, pairI]; exact .same rfl
 by_cases h18 : i.op = 18
 ·simp [ir93, encC, encI, recs, ints, h10, h17, h18, lenS, pairI]; exact .same rfl
 by_cases h2 : i.op = 21 ∨ i.op = 27
 ·obtain ⟨b0, b1⟩ := hb h2
  have hlt : i.b.toNat < c.bodies.length := by omega
  have hg : c.bodies[i.b.toNat]? = some c.bodies[i.b.toNat] := List.getElem?_eq_getElem hlt
  have hcut := cutBo hlt
  rcases h2 with h2 | h2
  ·simp [ir93, encC, encI, recs, ints, h10, h17, h18, h2, b0, b1, hcut, encBo, lenS, hg, pairI]; exact .same rfl
  ·simp [ir93, encC, encI, recs, ints, h10, h17, h18, h2, b0, b1, hcut, encBo, lenS, hg, pairI]; exact .same rfl
 simp only [not_or] at h2
 by_cases h33 : i.op = 33
 ·simp [ir93, encC, encI, recs, ints, h10, h17, h18, h2, h33, lenS, pairI]; exact .same rfl
 by_cases h35 : i.op = 35
 ·by_cases t1 : i.text = readT
  ·simp [ir93, encC, encI, recs, ints, h10, h17, h18, h2, h33, h35, lenS, pairI, arithStr, lit_toList, t1, readT]; exact .same rfl
  by_cases t2 : i.text = casT
  ·simp only [readT] at t1
   simp [ir93, encC, encI, recs, ints, h10, h17, h18, h2, h33, h35, lenS, pairI, arithStr, lit_toList, t2, readT, casT]; exact .same rfl
  simp only [readT, casT] at t1 t2
  simp [ir93, encC, encI, recs, ints, h10, h17, h18, h2, h33, h35, lenS, pairI, arithStr, lit_toList, t1, t2, readT, casT]; exact .same rfl
 by_cases h36 : i.op = 36
 ·simp [ir93, encC, encI, recs, ints, h10, h17, h18, h2, h33, h35, h36, lenS]
  refine (strCount_ok (s := i.text)).runk ?_
  simp [pairI]
  exact .same rfl
 simp [ir93, encC, encI, recs, ints, h10, h17, h18, h2, h33, h35, h36, lenS, pairI]; exact .same rfl
set_option maxRecDepth 8000 in
set_option maxHeartbeats 4000000 in
theorem length_ok {c : FCode} {i : FIns} (hn : i.op = 21 ∨ i.op = 27 → 0 ≤ i.b) (hz : big i.text.length) : PPd (.fn 99 [] []) [.agg (encC c), .agg (encI i)] (pairI (lenS c i)) := by
 refine PP_code rfl rfl rfl (by simp) (by simp [noId]) (by simp [pairI, noId, noIdL]) (PW_ok _ ?_)
 by_cases h10 : i.op = 10
 ·simp [ir99, encC, encI, recs, ints, h10, lenS, pairI]; exact .same rfl
 by_cases h17 : i.op = 17
 ·simp [ir99, encC, encI, recs, ints, h10, h17, lenS, pairI]; exact .same rfl
 by_cases h18 : i.op = 18
 ·simp [ir99, encC, encI, recs, ints, h10, h17, h18, lenS, pairI]; exact .same rfl
 by_cases h2 : i.op = 21 ∨ i.op = 27
 ·have b0 := hn h2
  by_cases b1 : i.b < c.bodies.length
  ·have hlt : i.b.toNat < c.bodies.length := by omega
   have hg : c.bodies[i.b.toNat]? = some c.bodies[i.b.toNat] := List.getElem?_eq_getElem hlt
   have hcut := cutBo hlt
   rcases h2 with h2 | h2
   ·simp [ir99, encC, encI, recs, ints, h10, h17, h18, h2, b0, b1, hcut, encBo, lenS, hg, pairI]; exact .same rfl
   ·simp [ir99, encC, encI, recs, ints, h10, h17, h18, h2, b0, b1, hcut, encBo, lenS, hg, pairI]; exact .same rfl
  ·have hg : c.bodies[i.b.toNat]? = none := List.getElem?_eq_none (by omega)
   rcases h2 with h2 | h2
   ·simp [ir99, encC, encI, recs, ints, h10, h17, h18, h2, b0, b1, lenS, hg, pairI]; exact .same rfl
   ·simp [ir99, encC, encI, recs, ints, h10, h17, h18, h2, b0, b1, lenS, hg, pairI]; exact .same rfl
 simp only [not_or] at h2
 by_cases h33 : i.op = 33
 ·simp [ir99, encC, encI, recs, ints, h10, h17, h18, h2, h33, lenS, pairI]; exact .same rfl
 by_cases h35 : i.op = 35
 ·by_cases t1 : i.text = readT
  ·simp [ir99, encC, encI, recs, ints, h10, h17, h18, h2, h33, h35, lenS, pairI, arithStr, lit_toList, t1, readT]; exact .same rfl
  by_cases t2 : i.text = casT
  ·simp only [readT] at t1
   simp [ir99, encC, encI, recs, ints, h10, h17, h18, h2, h33, h35, lenS, pairI, arithStr, lit_toList, t2, readT, casT]; exact .same rfl
  simp only [readT, casT] at t1 t2
  simp [ir99, encC, encI, recs, ints, h10, h17, h18, h2, h33, h35, lenS, pairI, arithStr, lit_toList, t1, t2, readT, casT]; exact .same rfl
 by_cases h36 : i.op = 36
 ·simp [ir99, encC, encI, recs, ints, h10, h17, h18, h2, h33, h35, h36, lenS]
  refine (zeroes_ok (s := i.text) hz).runj ?_
  simp
  refine (zeroes_ok (s := i.text) hz).runk ?_
  simp [pairI]
  exact .same rfl
 simp [ir99, encC, encI, recs, ints, h10, h17, h18, h2, h33, h35, h36, lenS, pairI]; exact .same rfl
def nameR (r : Int) : Bool := decide (r = 95) || (decide (48 ≤ r) && decide (r ≤ 57)) || (decide (97 ≤ r) && decide (r ≤ 122)) || (decide (65 ≤ r) && decide (r ≤ 90))
def nameC (x : UInt8) : Bool := nameR x.toNat
theorem nameR_t {r : Int} (h : r = 95 ∨ (48 ≤ r ∧ r ≤ 57) ∨ (97 ≤ r ∧ r ≤ 122) ∨ (65 ≤ r ∧ r ≤ 90)) : nameR r = true := by
 simp only [nameR, Bool.or_eq_true, Bool.and_eq_true, decide_eq_true_eq]; omega
theorem nameR_f {r : Int} (h : ¬ (r = 95 ∨ (48 ≤ r ∧ r ≤ 57) ∨ (97 ≤ r ∧ r ≤ 122) ∨ (65 ≤ r ∧ r ≤ 90))) : nameR r = false := by
 cases hh : nameR r with
 | false => rfl
 | true => exfalso; simp only [nameR, Bool.or_eq_true, Bool.and_eq_true, decide_eq_true_eq] at hh; omega
set_option maxRecDepth 8000 in
set_option maxHeartbeats 4000000 in
theorem rune_ok {r : Int} : PPd (.fn 88 [] []) [.v (.int .i32 r)] (pbool (!nameR r)) := by
 refine PP_code rfl rfl rfl (by simp) (by simp [noId]) (by simp) (PW_ok _ ?_)
 by_cases h1 : r = 95
 ·rw [nameR_t (.inl h1)]
  simp [ir88, h1]; exact .same rfl
 by_cases h2 : r < 48
 ·rw [nameR_f (by omega)]
  have a1 : r < 97 := by omega
  have a2 : r < 65 := by omega
  simp [ir88, h1, h2, a1, a2]; exact .same rfl
 by_cases h3 : r ≤ 57
 ·rw [nameR_t (by omega)]
  have a1 : ¬ 57 < r := by omega
  simp [ir88, h1, h2, a1]; exact .same rfl
 have b3 : 57 < r := by omega
 by_cases h4 : r < 65
 ·rw [nameR_f (by omega)]
  have a1 : r < 97 := by omega
  simp [ir88, h1, h2, b3, h4, a1]; exact .same rfl
 by_cases h5 : r ≤ 90
 ·rw [nameR_t (by omega)]
  have a1 : r < 97 := by omega
  have a2 : ¬ 90 < r := by omega
  simp [ir88, h1, h2, b3, h4, a1, a2]; exact .same rfl
 have b5 : 90 < r := by omega
 by_cases h6 : r < 97
 ·rw [nameR_f (by omega)]
  simp [ir88, h1, h2, b3, h4, b5, h6]; exact .same rfl
 by_cases h7 : r ≤ 122
 ·rw [nameR_t (by omega)]
  have a1 : ¬ 122 < r := by omega
  simp [ir88, h1, h2, b3, h4, b5, h6, a1]; exact .same rfl
 have b7 : 122 < r := by omega
 rw [nameR_f (by omega)]
 simp [ir88, h1, h2, b3, h4, b5, h6, b7]; exact .same rfl
theorem decode_high {s : ByteArray} {i : Nat} (h : i < s.size) (h1 : ¬ (s[i]'h).toNat < 128) : 128 ≤ (Utf8.decode s i).1 := by
 have e : (s.get! i).toNat = (s[i]'h).toNat := by
  cases s with
  | mk d =>
   have hd : i < d.size := h
   simp [ByteArray.get!, hd]
   rfl
 unfold Utf8.decode
 simp only [Nat.add_zero, e, h1, if_false]
 repeat' split
 all_goals first | (simp only [Bool.and_eq_true, decide_eq_true_eq] at *; omega) | (simp only [Utf8.runeError]; omega)
def RuJ (s : List UInt8) (m : Nat) (E : PEnv) (L : List LObj) : Prop := ∃ i : Nat, i + m = s.length ∧ L = [.iter (bstr s) i] ∧ Has E [(1, .fn 88 [] []), (2, pbool true), (10, .ptr 0 0)] ∧ ∀ x ∈ s.take i, (!nameC x) = false
set_option maxRecDepth 8000 in
set_option maxHeartbeats 4000000 in
theorem indexRune_ok {s : List UInt8} : PPd (.fn 107 [] []) [pstr s, .fn 88 [] [], pbool true] (pin (firstI (fun x => !nameC x) s)) := by
 refine PP_code rfl rfl rfl (by simp) (by simp [noId]) (by simp) (PW_ok _ ?_)
 simp [ir107]
 refine PC_loopG (RuJ s) ?_ (k := s.length) ⟨0, by simp, rfl, by simp, fun x hx => by simp at hx⟩
 rintro m E L ⟨i, him, rfl, ⟨e1, e2, e10, -⟩, hn⟩
 by_cases hi : i < s.length
 ·have hi' : i < (bstr s).size := by simpa using hi
  have hsi : (bstr s)[i]'hi' = s[i] := bstr_get' hi'
  simp [e1, e2, e10, hi]
  refine (rune_ok (r := ((Utf8.decode (bstr s) i).1 : Int))).runk ?_
  by_cases hx : nameC s[i] = true
  ·have hxf : (!nameC s[i]) = false := by simp only [hx, Bool.not_true]
   have ha : s[i].toNat < 128 := by
    simp only [nameC, nameR, Bool.or_eq_true, Bool.and_eq_true, decide_eq_true_eq] at hx; omega
   have hd : Utf8.decode (bstr s) i = (s[i].toNat, 1) := by
    have := Go.decode_ascii (bstr s) i hi' (by rw [hsi]; exact ha)
    rw [hsi] at this; exact this
   have hx' : nameR (s[i].toNat : Int) = true := hx
   simp [e1, e2, e10, hd, hx']
   exact GoOn.same (m - 1) (by omega) ⟨i + 1, by omega, rfl, by simp [e1, e2, e10], take_next (p := fun x => !nameC x) hi hn hxf⟩
  ·have hx' : nameR ((Utf8.decode (bstr s) i).1 : Int) = false := by
    by_cases ha : s[i].toNat < 128
    ·have := Go.decode_ascii (bstr s) i hi' (by rw [hsi]; exact ha)
     rw [hsi] at this
     rw [this]
     simpa [nameC] using hx
    ·have := decode_high hi' (by rw [hsi]; exact ha)
     exact nameR_f (by omega)
   have hf : firstI (fun x => !nameC x) s = i := firstI_at hi hn (show (!nameC (s[i]'hi)) = true by cases hh : nameC (s[i]'hi) with | false => rfl | true => exact absurd hh hx)
   rw [hf]
   simp [e1, e2, e10, hx']
   exact .same rfl
 ·have hie : i = s.length := by omega
  subst hie
  rw [List.take_length] at hn
  rw [firstI_none hn]
  simp [e1, e2, e10]
  exact .same rfl
def badName (s : List UInt8) : Bool := s.any fun x => !nameC x
theorem containsRune_ok {s : List UInt8} : PPd (.fn 87 [] []) [pstr s, .fn 88 [] []] (pbool (badName s)) := by
 have h100 : PPd (.fn 100 [] []) [pstr s, .fn 88 [] []] (pin (firstI (fun x => !nameC x) s)) := by
  refine PP_code rfl rfl rfl (by simp) (by simp [noId]) (by simp) (PW_ok _ ?_)
  simp [ir100]
  refine indexRune_ok.runk ?_
  simp
  exact .same rfl
 refine PP_code rfl rfl rfl (by simp) (by simp [noId]) (by simp) (PW_ok _ ?_)
 simp [ir87]
 refine h100.runk ?_
 simp
 exact .eq (by rw [firstI_any]; rfl) rfl
def namedB : List UInt8 → Bool
 | [] => false
 | x :: l => decide (l.length + 1 ≤ 60) && !(decide (48 ≤ x.toNat) && decide (x.toNat ≤ 57)) && !badName (x :: l)
set_option maxRecDepth 8000 in
set_option maxHeartbeats 4000000 in
theorem named_ok {s : List UInt8} : PPd (.fn 75 [] []) [pstr s] (pbool (namedB s)) := by
 refine PP_code rfl rfl rfl (by simp) (by simp [noId]) (by simp) (PW_ok _ ?_)
 cases s with
 | nil => simp [ir75, namedB]; exact .same rfl
 | cons x l =>
  by_cases h1 : 60 < l.length + 1
  ·have h1' : (60 : Int) < (l.length : Int) + 1 := by omega
   have hs : namedB (x :: l) = false := by simp only [namedB, show ¬ l.length + 1 ≤ 60 by omega, decide_false, Bool.false_and]
   rw [hs]
   have c0 : ¬ (l.length : Int) + 1 < 1 := by omega
   simp [ir75, h1, h1', c0]; exact .same rfl
  have h1' : ¬ (60 : Int) < (l.length : Int) + 1 := by omega
  have c0 : ¬ (l.length : Int) + 1 < 1 := by omega
  by_cases h2 : 48 ≤ x.toNat
  ·by_cases h3 : x.toNat ≤ 57
   ·have hs : namedB (x :: l) = false := by simp [namedB, h2, h3]
    rw [hs]
    have h2' : (48 : Int) ≤ (x.toNat : Int) := by omega
    have h3' : (x.toNat : Int) ≤ 57 := by omega
    simp [ir75, h1, h1', c0, h2, h3, h2', h3']; exact .same rfl
   ·have hs : namedB (x :: l) = !badName (x :: l) := by simp only [namedB, show l.length + 1 ≤ 60 by omega, h2, h3, decide_true, decide_false, Bool.true_and, Bool.and_false, Bool.not_false]
    have h2' : (48 : Int) ≤ (x.toNat : Int) := by omega
    have h3' : ¬ (x.toNat : Int) ≤ 57 := by omega
    rw [hs]
    simp [ir75, h1, h1', c0, h2, h3, h2', h3']
    refine containsRune_ok.runk ?_
    simp
    exact .same rfl
  ·have hs : namedB (x :: l) = !badName (x :: l) := by simp only [namedB, show l.length + 1 ≤ 60 by omega, h2, decide_true, decide_false, Bool.true_and, Bool.false_and, Bool.not_false]
   have h2' : ¬ (48 : Int) ≤ (x.toNat : Int) := by omega
   rw [hs]
   simp [ir75, h1, h1', c0, h2, h2']
   refine containsRune_ok.runk ?_
   simp
   exact .same rfl
theorem bstr_extract {l : List UInt8} {i j : Nat} : (bstr l).extract i j = bstr ((l.take j).drop i) := by
 apply ByteArray.ext
 simp [bstr, ByteArray.data_extract, List.extract_eq_drop_take, List.drop_take]
theorem lit_size {a : Array UInt8} : (ByteArray.mk a).size = a.size := rfl
theorem bstr_app {a : Array UInt8} {l : List UInt8} : ByteArray.mk a ++ bstr l = bstr (a.toList ++ l) := by
 apply ByteArray.ext
 simp [bstr]
def letterR (n : Nat) : Bool := (decide (97 ≤ n) && decide (n ≤ 122)) || (decide (65 ≤ n) && decide (n ≤ 90))
set_option maxRecDepth 8000 in
theorem letter_ok {n : Nat} : PPd (.fn 105 [] []) [.v (.int .u8 n)] (pbool (letterR n)) := by
 refine PP_code rfl rfl rfl (by simp) (by simp [noId]) (by simp) (PW_ok _ ?_)
 by_cases h1 : (97 : Int) ≤ n
 ·have g1 : 97 ≤ n := by omega
  by_cases h2 : (n : Int) ≤ 122
  ·have g2 : n ≤ 122 := by omega
   simp [ir105, h1, h2, letterR, g1, g2]; exact .same rfl
  ·have g2 : ¬ n ≤ 122 := by omega
   have h3 : (65 : Int) ≤ n := by omega
   have g3 : ¬ n ≤ 90 := by omega
   have h4 : ¬ (n : Int) ≤ 90 := by omega
   simp [ir105, h1, h2, h3, h4, letterR, g1, g2, g3]; exact .same rfl
 ·have g1 : ¬ 97 ≤ n := by omega
  by_cases h3 : (65 : Int) ≤ n
  ·have g3 : 65 ≤ n := by omega
   by_cases h4 : (n : Int) ≤ 90
   ·have g4 : n ≤ 90 := by omega
    simp [ir105, h1, h3, h4, letterR, g1, g3, g4]; exact .same rfl
   ·have g4 : ¬ n ≤ 90 := by omega
    simp [ir105, h1, h3, h4, letterR, g1, g3, g4]; exact .same rfl
  ·have g3 : ¬ 65 ≤ n := by omega
   simp [ir105, h1, h3, letterR, g1, g3]; exact .same rfl
def isAt (i : Nat) (x : UInt8) : Bool := letterR x.toNat || decide (x.toNat = 95) || (decide (i ≠ 0) && decide (48 ≤ x.toNat) && decide (x.toNat ≤ 57))
def allAt (s : List UInt8) : Bool := (List.range s.length).all fun i => isAt i (s.getD i 0)
def isNameB (s : List UInt8) : Bool := decide (1 ≤ s.length) && decide (s.length ≤ 40) && allAt s
def NmJ (s : List UInt8) (m : Nat) (E : PEnv) (L : List LObj) : Prop := ∃ i : Nat, i + m = s.length ∧ L = [] ∧ Has E [(0, pstr s), (3, pin i)] ∧ ∀ j, j < i → isAt j (s.getD j 0) = true
set_option maxRecDepth 8000 in
set_option maxHeartbeats 4000000 in
theorem isName_ok {s : List UInt8} : PPd (.fn 96 [] []) [pstr s] (pbool (isNameB s)) := by
 refine PP_code rfl rfl rfl (by simp) (by simp [noId]) (by simp) (PW_ok _ ?_)
 by_cases h1 : (s.length : Int) < 1
 ·have hs : isNameB s = false := by simp only [isNameB, show ¬ 1 ≤ s.length by omega, decide_false, Bool.false_and]
  rw [hs]
  simp [ir96, h1]; exact .same rfl
 by_cases h2 : (40 : Int) < s.length
 ·have hs : isNameB s = false := by simp only [isNameB, show ¬ s.length ≤ 40 by omega, decide_false, Bool.false_and, Bool.and_false]
  rw [hs]
  simp [ir96, h1, h2]; exact .same rfl
 have hs : isNameB s = allAt s := by simp only [isNameB, show 1 ≤ s.length by omega, show s.length ≤ 40 by omega, decide_true, Bool.true_and]
 have hb : big s.length := by unfold big; omega
 rw [hs]
 simp only [ir96]
 simp [h1, h2]
 refine PC_loopG (NmJ s) ?_ (k := s.length) ⟨0, by simp, rfl, by simp, fun j hj => by omega⟩
 rintro m E L ⟨i, him, rfl, ⟨e0, e3, -⟩, hn⟩
 by_cases hi : i < s.length
 case neg =>
  have hie : i = s.length := by omega
  subst hie
  have : allAt s = true := by
   unfold allAt
   rw [List.all_eq_true]; intro j hj; exact hn j (by simpa using hj)
  rw [this]
  simp [e0, e3]
  exact .same rfl
 have hx : s.getD i 0 = s[i] := by simp [List.getD_eq_getElem?_getD, hi]
 have go : isAt i s[i] = true → ∀ j, j < i + 1 → isAt j (s.getD j 0) = true := fun h j hj => by
  by_cases e : j = i
  ·subst e; rw [hx]; exact h
  ·exact hn j (by omega)
 have stop : isAt i s[i] = false → allAt s = false := fun h => by
  unfold allAt
  rw [List.all_eq_false]; exact ⟨i, by simpa using hi, by rw [hx, h]; simp⟩
 generalize hxi : s[i] = x at *
 simp [e0, e3, hi, hxi]
 refine (letter_ok (n := x.toNat)).runk ?_
 have fin : ∀ {E' : PEnv}, E'.get 0 = some (pstr s) → E'.get 3 = some (pin (i + 1 : Nat)) → isAt i x = true → GoOn (NmJ s) m E' [] := fun a b c => GoOn.same (m - 1) (by omega) ⟨i + 1, by omega, rfl, by simp only [Has_cons, Has_nil, and_true]; exact ⟨a, b⟩, go c⟩
 cases hl : letterR x.toNat with
 | true =>
  simp [e0, e3, wrap_inc hi hb]
  exact fin (by simp [e0]) (by simp) (by simp [isAt, hl])
 | false =>
  by_cases h95 : x.toNat = 95
  ·have h95' : (x.toNat : Int) = 95 := by omega
   simp [e0, e3, hi, hxi, h95, h95', wrap_inc hi hb]
   exact fin (by simp [e0]) (by simp) (by simp [isAt, h95])
  have h95' : ¬ (x.toNat : Int) = 95 := by omega
  by_cases hi0 : i = 0
  ·have hf : isAt i x = false := by simp [isAt, hl, h95, hi0]
   rw [stop hf]
   subst hi0
   simp [e0, e3, hi, hxi, h95, h95']
   exact .same rfl
  have hi0' : ¬ (i : Int) = 0 := by omega
  by_cases h48 : x.toNat < 48
  ·have h48' : (x.toNat : Int) < 48 := by omega
   have hf : isAt i x = false := by simp [isAt, hl, h95, hi0]; omega
   rw [stop hf]
   simp [e0, e3, hi, hxi, h95, h95', hi0, hi0', h48, h48']
   exact .same rfl
  have h48' : ¬ (x.toNat : Int) < 48 := by omega
  by_cases h57 : 57 < x.toNat
  ·have h57' : 57 < (x.toNat : Int) := by omega
   have hf : isAt i x = false := by simp [isAt, hl, h95, hi0]; omega
   rw [stop hf]
   simp [e0, e3, hi, hxi, h95, h95', hi0, hi0', h48, h48', h57, h57']
   exact .same rfl
  have h57' : ¬ 57 < (x.toNat : Int) := by omega
  simp [e0, e3, hi, hxi, h95, h95', hi0, hi0', h48, h48', h57, h57', wrap_inc hi hb]
  exact fin (by simp [e0]) (by simp) (by simp [isAt, hl, h95, hi0]; omega)
theorem isName2 {x : UInt8} : isNameB [97, x] = nameC x := by
 have : isNameB [97, x] = isAt 1 x := by simp [isNameB, allAt, List.range_succ, isAt, letterR]
 rw [this, isAt, nameC, nameR, letterR, Bool.eq_iff_iff]
 simp only [Bool.or_eq_true, Bool.and_eq_true, decide_eq_true_eq]
 omega
def NaJ (s : List UInt8) (m : Nat) (E : PEnv) (L : List LObj) : Prop := ∃ i : Nat, i + m = s.length ∧ L = [] ∧ Has E [(0, pstr s), (3, pin i)] ∧ ∀ x ∈ s.take i, (!nameC x) = false
set_option maxRecDepth 8000 in
set_option maxHeartbeats 4000000 in
theorem namedR_ok {s : List UInt8} : PPd (.fn 81 [] []) [pstr s] (pbool (namedB s)) := by
 refine PP_code rfl rfl rfl (by simp) (by simp [noId]) (by simp) (PW_ok _ ?_)
 cases hsx : s with
 | nil => simp [ir81, namedB]; exact .same rfl
 | cons x l =>
  by_cases h1 : 60 < l.length + 1
  ·have h1' : (60 : Int) < (l.length : Int) + 1 := by omega
   have hs : namedB (x :: l) = false := by simp only [namedB, show ¬ l.length + 1 ≤ 60 by omega, decide_false, Bool.false_and]
   rw [hs]
   have c0 : ¬ (l.length : Int) + 1 < 1 := by omega
   simp [ir81, h1, h1', c0]; exact .same rfl
  have h1' : ¬ (60 : Int) < (l.length : Int) + 1 := by omega
  have c0 : ¬ (l.length : Int) + 1 < 1 := by omega
  by_cases hbad : 48 ≤ x.toNat ∧ x.toNat ≤ 57
  ·obtain ⟨h2, h3⟩ := hbad
   have hs : namedB (x :: l) = false := by simp [namedB, h2, h3]
   rw [hs]
   have h2' : (48 : Int) ≤ (x.toNat : Int) := by omega
   have h3' : (x.toNat : Int) ≤ 57 := by omega
   simp [ir81, h1, h1', c0, h2, h3, h2', h3']; exact .same rfl
  have hs : namedB (x :: l) = !badName s := by
   rw [hsx]
   have : (decide (48 ≤ x.toNat) && decide (x.toNat ≤ 57)) = false := by simpa using hbad
   simp only [namedB, show l.length + 1 ≤ 60 by omega, this, decide_true, Bool.true_and, Bool.not_false]
  rw [hs]
  have hlen : s.length = l.length + 1 := by rw [hsx]; rfl
  have hb : big s.length := by unfold big; omega
  have hcase : (¬ 48 ≤ x.toNat) ∨ (48 ≤ x.toNat ∧ ¬ x.toNat ≤ 57) := by omega
  rw [← hsx]
  have hg0 : (bstr s)[0]? = some x := by rw [bstr_get, hsx]; rfl
  have l1 : ¬ (s.length : Int) < 1 := by omega
  have l2 : ¬ (60 : Int) < (s.length : Int) := by omega
  have hx0 : s[0]? = some x := by rw [hsx]; rfl
  rcases hcase with h2 | ⟨h2, h3⟩
  ·have h2' : ¬ (48 : Int) ≤ (x.toNat : Int) := by omega
   simp [ir81, l1, l2, hx0, h2, h2']
   refine PC_loopG (NaJ s) ?_ (k := s.length) ⟨0, by simp, rfl, by simp, fun x hx => by simp at hx⟩
   rintro m E L ⟨i, him, rfl, ⟨e0, e3, -⟩, hn⟩
   by_cases hi : i < s.length
   case neg =>
    have hie : i = s.length := by omega
    subst hie
    rw [List.take_length] at hn
    have hbn : badName s = false := by unfold badName; rw [List.any_eq_false]; intro x hx; rw [hn x hx]; simp
    rw [hbn]
    simp [e0, e3]
    exact .same rfl
   have hex : (s.take (i + 1)).drop i = [s[i]] := by
    rw [List.drop_take, show i + 1 - i = 1 by omega, List.drop_eq_getElem_cons hi]
    rfl
   have hw := wrap_inc hi hb
   have hc1 : (i : Int) ≤ ((i + 1 : Nat) : Int) := by omega
   have hc2 : ((i + 1 : Nat) : Int) ≤ s.length := by omega
   have hc3 : (0 : Int) ≤ ((i + 1 : Nat) : Int) := by omega
   have hc4 : ((i : Int) + 1).toNat = i + 1 := by omega
   have hc5 : (0 : Int) ≤ (i : Int) + 1 := by omega
   have hc6 : (i : Int) + 1 ≤ s.length := by omega
   have hc7 : (i : Int) ≤ (i : Int) + 1 := by omega
   have hmx : ¬ IntKind.max .i64 < 2 := by decide
   simp [e0, e3, hi, hw, hc1, hc2, hc3, hc4, hc5, hc6, hc7, bstr_extract, hex, arithStr, bstr_app, lit_size, hmx]
   refine (isName_ok (s := [97, s[i]])).runk ?_
   rw [isName2]
   cases hx : nameC s[i] with
   | false =>
    have hbn : badName s = true := by unfold badName; rw [List.any_eq_true]; exact ⟨s[i], List.getElem_mem hi, by simp [hx]⟩
    rw [hbn]
    simp [e0, e3]
    exact .same rfl
   | true =>
    simp [e0, e3, hw]
    exact GoOn.same (m - 1) (by omega) ⟨i + 1, by omega, rfl, by simp [e0], take_next (p := fun x => !nameC x) hi hn (by show (!nameC s[i]) = false; simp only [hx, Bool.not_true])⟩
  ·have h2' : (48 : Int) ≤ (x.toNat : Int) := by omega
   have h3' : ¬ (x.toNat : Int) ≤ 57 := by omega
   simp [ir81, l1, l2, hx0, h2, h2', h3, h3']
   refine PC_loopG (NaJ s) ?_ (k := s.length) ⟨0, by simp, rfl, by simp, fun x hx => by simp at hx⟩
   rintro m E L ⟨i, him, rfl, ⟨e0, e3, -⟩, hn⟩
   by_cases hi : i < s.length
   case neg =>
    have hie : i = s.length := by omega
    subst hie
    rw [List.take_length] at hn
    have hbn : badName s = false := by unfold badName; rw [List.any_eq_false]; intro x hx; rw [hn x hx]; simp
    rw [hbn]
    simp [e0, e3]
    exact .same rfl
   have hex : (s.take (i + 1)).drop i = [s[i]] := by
    rw [List.drop_take, show i + 1 - i = 1 by omega, List.drop_eq_getElem_cons hi]
    rfl
   have hw := wrap_inc hi hb
   have hc1 : (i : Int) ≤ ((i + 1 : Nat) : Int) := by omega
   have hc2 : ((i + 1 : Nat) : Int) ≤ s.length := by omega
   have hc3 : (0 : Int) ≤ ((i + 1 : Nat) : Int) := by omega
   have hc4 : ((i : Int) + 1).toNat = i + 1 := by omega
   have hc5 : (0 : Int) ≤ (i : Int) + 1 := by omega
   have hc6 : (i : Int) + 1 ≤ s.length := by omega
   have hc7 : (i : Int) ≤ (i : Int) + 1 := by omega
   have hmx : ¬ IntKind.max .i64 < 2 := by decide
   simp [e0, e3, hi, hw, hc1, hc2, hc3, hc4, hc5, hc6, hc7, bstr_extract, hex, arithStr, bstr_app, lit_size, hmx]
   refine (isName_ok (s := [97, s[i]])).runk ?_
   rw [isName2]
   cases hx : nameC s[i] with
   | false =>
    have hbn : badName s = true := by unfold badName; rw [List.any_eq_true]; exact ⟨s[i], List.getElem_mem hi, by simp [hx]⟩
    rw [hbn]
    simp [e0, e3]
    exact .same rfl
   | true =>
    simp [e0, e3, hw]
    exact GoOn.same (m - 1) (by omega) ⟨i + 1, by omega, rfl, by simp [e0], take_next (p := fun x => !nameC x) hi hn (by show (!nameC s[i]) = false; simp only [hx, Bool.not_true])⟩
def okByte (x : UInt8) : Bool := decide (x.toNat = 0) || (decide (32 ≤ x.toNat) && decide (x.toNat ≤ 126))
def textS (i : FIns) : Bool := if i.op = 36 then i.text.all okByte else if (textN i.op.toNat).isEmpty then decide (i.text = []) else decide (i.text ∈ textN i.op.toNat)
def kindAt (r : FRule) : Nat → Int
 | 0 => r.a
 | 1 => r.b
 | 2 => r.c
 | _ => r.d
def numAt (i : FIns) : Nat → Int
 | 0 => i.a
 | 1 => i.b
 | 2 => i.c
 | _ => i.d
def kindsB (c : FCode) (b : FBody) (i : FIns) : Bool := kindB c b (ruleN i.op.toNat).a i.a && kindB c b (ruleN i.op.toNat).b i.b && kindB c b (ruleN i.op.toNat).c i.c && kindB c b (ruleN i.op.toNat).d i.d
def listS (c : FCode) (b : FBody) (i : FIns) : Bool := decide ((lenS c i).1 ≤ i.list.length) && decide ((i.list.length : Int) ≤ (lenS c i).2) && i.list.all fun n => kindB c b 1 n
def rightS (c : FCode) (b : FBody) (i : FIns) : Bool := decide (1 ≤ i.op) && decide (i.op ≤ 37) && kindsB c b i && textS i && listS c b i
theorem cutRow {r : FRule} {i : FIns} {k : Nat} (hk : k < 4) : cut (rowOf r i) (k * 2) 2 = [pin (kindAt r k), pin (numAt i k)] := by
 match k, hk with
 | 0, _ => rfl
 | 1, _ => rfl
 | 2, _ => rfl
 | 3, _ => rfl
theorem kindAt_le {n k : Nat} (hn : n < 38) (hk : k < 4) : 0 ≤ kindAt (ruleN n) k ∧ kindAt (ruleN n) k ≤ 10 := by
 have h : ∀ n, n < 38 → ∀ k, k < 4 → 0 ≤ kindAt (ruleN n) k ∧ kindAt (ruleN n) k ≤ 10 := by decide
 exact h n hn k hk
theorem texts_nil {n : Nat} (hn : n < 38) : (textN n).isEmpty = true → (ruleN n).texts = [] := by
 have h : ∀ n, n < 38 → (textN n).isEmpty = true → (ruleN n).texts = [] := by decide
 exact h n hn
theorem texts_cons {n : Nat} (hn : n < 38) : (textN n).isEmpty = false → (ruleN n).texts ≠ [] := by
 have h : ∀ n, n < 38 → (textN n).isEmpty = false → (ruleN n).texts ≠ [] := by decide
 exact h n hn
theorem texts_len {n : Nat} (hn : n < 38) : (textN n).length ≤ 100 := by
 have h : ∀ n, n < 38 → (textN n).length ≤ 100 := by decide
 exact h n hn
def RgBase (c : FCode) (b : FBody) (i : FIns) : List (Nat × PV) := [(3, .fp (encC c)), (4, .fp (encBo b)), (5, .fp (encI i)), (7, .fp (encR (ruleN i.op.toNat)))]
def RgJ1 (c : FCode) (b : FBody) (i : FIns) (m : Nat) (E : PEnv) (L : List LObj) : Prop := ∃ k : Nat, k + m = 4 ∧ L = [] ∧
 Has E [(3, .fp (encC c)), (4, .fp (encBo b)), (5, .fp (encI i)), (7, .fp (encR (ruleN i.op.toNat))), (25, .agg (rowOf (ruleN i.op.toNat) i)), (26, pin k)] ∧ ∀ j, j < k → kindB c b (kindAt (ruleN i.op.toNat) j) (numAt i j) = true
def RgJ2 (c : FCode) (b : FBody) (i : FIns) (m : Nat) (E : PEnv) (L : List LObj) : Prop := ∃ k : Nat, k + m = i.text.length ∧ L = [] ∧
 Has E [(3, .fp (encC c)), (4, .fp (encBo b)), (5, .fp (encI i)), (7, .fp (encR (ruleN i.op.toNat))), (44, pin i.text.length), (45, pin k)] ∧ ∀ x ∈ i.text.take k, (!okByte x) = false
def cRight : ICode := match ir78.body with | .seq _ (.seq _ (.seq _ (.seq _ (.seq _ c)))) => c | _ => .skip
def RgQ (p : Bool) : Ex → PEnv → List LObj → Prop := fun x E' L' => (x = .norm ∨ x = .ret) ∧ ∃ ps, press E' L' ir78.results = some ps ∧ Vw [] L' (pone1 ps) (pbool p)
set_option maxRecDepth 8000 in
set_option maxHeartbeats 4000000 in
theorem right_end {c : FCode} {b : FBody} {i : FIns} {E : PEnv} (hi : (i.op = 21 ∨ i.op = 27) → 0 ≤ i.b ∧ i.b < c.bodies.length) (hb : big i.list.length) (h : Has E [(3, .fp (encC c)), (4, .fp (encBo b)), (5, .fp (encI i))]) :
  PC FD XA XN 0 cRight (RgQ (listS c b i)) E [] := by
 refine PW_ok _ ?_
 obtain ⟨e3, e4, e5, -⟩ := h
 unfold RgQ
 simp [cRight, ir78, e3, e4, e5]
 have ht : List.take 2 (encC c) = encC c := rfl
 have ht7 : List.take 7 (encI i) = encI i := rfl
 rw [ht, ht7]
 refine (lengths_ok (c := c) (i := i) hi).runk ?_
 have hd6 : List.drop 6 (encI i) = [ints 3 i.list] := rfl
 by_cases h1 : (lenS c i).1 ≤ i.list.length
 ·by_cases h2 : (i.list.length : Int) ≤ (lenS c i).2
  ·simp [pairI, e3, e4, e5, hd6, ints, h1, h2]
   have hi2 : PV.fz 3 i.list.length (i.list.map pin) = ints 3 i.list := rfl
   rw [hi2]
   refine (containsI_ok (t := 3) (l := i.list) (p := fun n => !kindB c b 1 n) hb (by simp [noId]) (fun x _ => field1_ok)).runk ?_
   simp
   refine .eq ?_ rfl
   simp only [listS, h1, h2, decide_true, Bool.true_and, List.any_eq_not_all_not, Bool.not_not]
  ·simp [pairI, e3, e4, e5, hd6, ints, h1, h2]
   exact .eq (by simp only [listS, h2, decide_false, Bool.and_false, Bool.false_and]) rfl
 ·simp [pairI, e3, e4, e5, hd6, ints, h1]
  exact .eq (by simp only [listS, h1, decide_false, Bool.and_false, Bool.false_and]) rfl
end Go.Den
