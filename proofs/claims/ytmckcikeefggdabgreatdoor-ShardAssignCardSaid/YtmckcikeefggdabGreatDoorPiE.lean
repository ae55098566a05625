/- A pure interpreter of the machine, proved sound; part 5 of 6. -/
import Derived.KernelRfl
import Derived.Test.YtmckcikeefggdabGreatDoorProg
import Derived.Test.YtmckcikeefggdabGreatDoorPiD
set_option linter.unusedVariables false
set_option linter.unusedSimpArgs false
namespace Go.Proofs.YtmckcikeefggdabGreatDoor
open Go.Pi Go.Pi.S
set_option maxRecDepth 100000
def b165 : PCode := (.seq (.ops [m 17 0,
  a 18 (.lenSl (T 17)),
  m 4 18])
 (.seq (.block 0 (.loop (some [0, 1, 4]) (.seq (.seq (.ops [m 19 4,
  a 20 (.bin .geq (T 19) (.k (I 8)))])
 (.cond (T 20) .skip
 (.exit 0)))
 (.block 1 (.seq (.ops [m 21 1,
  a 22 (.bin .rem (T 21) (.k (.int .u64 (.ofNat 100000000)))),
  a 23 (.toInt .u32 (T 22)),
  m 5 23])
 (.seq (.ops [m 24 1,
  a 25 (.bin .quo (T 24) (.k (.int .u64 (.ofNat 100000000)))),
  m 1 25])
 (.seq (.ops [m 26 5,
  a 27 (.bin .quo (T 26) (.k (.int .u32 (.ofNat 10000)))),
  m 28 5,
  a 29 (.bin .rem (T 28) (.k (.int .u32 (.ofNat 10000)))),
  m 6 27,
  m 7 29])
 (.live [0, 1, 4, 6, 7] (.seq (.ops [m 30 7,
  a 31 (.bin .quo (T 30) (.k (.int .u32 (.ofNat 100)))),
  a 32 (.bin .mul (T 31) (.k (.int .u32 (.ofNat 2)))),
  m 33 7,
  a 34 (.bin .rem (T 33) (.k (.int .u32 (.ofNat 100)))),
  a 35 (.bin .mul (T 34) (.k (.int .u32 (.ofNat 2)))),
  m 8 32,
  m 9 35])
 (.live [0, 1, 4, 6, 8, 9] (.seq (.ops [m 36 6,
  a 37 (.bin .quo (T 36) (.k (.int .u32 (.ofNat 100)))),
  a 38 (.bin .mul (T 37) (.k (.int .u32 (.ofNat 2)))),
  m 39 6,
  a 40 (.bin .rem (T 39) (.k (.int .u32 (.ofNat 100)))),
  a 41 (.bin .mul (T 40) (.k (.int .u32 (.ofNat 2)))),
  m 10 38,
  m 11 41])
 (.live [0, 1, 4, 8, 9, 10, 11] (.seq (.dops [m 42 0,
  m 43 4,
  a 44 (.bin .sub (T 43) (.k (I 1))),
  m 45 0,
  m 46 4,
  a 47 (.bin .sub (T 46) (.k (I 2))),
  m 48 9,
  a 49 (.bin .add (T 48) (.k (.int .u32 (.ofNat 1)))),
  a 50 (.idxStr (.k (.str [.ofNat 48, .ofNat 48, .ofNat 48, .ofNat 49, .ofNat 48, .ofNat 50, .ofNat 48, .ofNat 51, .ofNat 48, .ofNat 52, .ofNat 48, .ofNat 53, .ofNat 48, .ofNat 54, .ofNat 48, .ofNat 55, .ofNat 48, .ofNat 56, .ofNat 48, .ofNat 57, .ofNat 49, .ofNat 48, .ofNat 49, .ofNat 49, .ofNat 49, .ofNat 50, .ofNat 49, .ofNat 51, .ofNat 49, .ofNat 52, .ofNat 49, .ofNat 53, .ofNat 49, .ofNat 54, .ofNat 49, .ofNat 55, .ofNat 49, .ofNat 56, .ofNat 49, .ofNat 57, .ofNat 50, .ofNat 48, .ofNat 50, .ofNat 49, .ofNat 50, .ofNat 50, .ofNat 50, .ofNat 51, .ofNat 50, .ofNat 52, .ofNat 50, .ofNat 53, .ofNat 50, .ofNat 54, .ofNat 50, .ofNat 55, .ofNat 50, .ofNat 56, .ofNat 50, .ofNat 57, .ofNat 51, .ofNat 48, .ofNat 51, .ofNat 49, .ofNat 51, .ofNat 50, .ofNat 51, .ofNat 51, .ofNat 51, .ofNat 52, .ofNat 51, .ofNat 53, .ofNat 51, .ofNat 54, .ofNat 51, .ofNat 55, .ofNat 51, .ofNat 56, .ofNat 51, .ofNat 57, .ofNat 52, .ofNat 48, .ofNat 52, .ofNat 49, .ofNat 52, .ofNat 50, .ofNat 52, .ofNat 51, .ofNat 52, .ofNat 52, .ofNat 52, .ofNat 53, .ofNat 52, .ofNat 54, .ofNat 52, .ofNat 55, .ofNat 52, .ofNat 56, .ofNat 52, .ofNat 57, .ofNat 53, .ofNat 48, .ofNat 53, .ofNat 49, .ofNat 53, .ofNat 50, .ofNat 53, .ofNat 51, .ofNat 53, .ofNat 52, .ofNat 53, .ofNat 53, .ofNat 53, .ofNat 54, .ofNat 53, .ofNat 55, .ofNat 53, .ofNat 56, .ofNat 53, .ofNat 57, .ofNat 54, .ofNat 48, .ofNat 54, .ofNat 49, .ofNat 54, .ofNat 50, .ofNat 54, .ofNat 51, .ofNat 54, .ofNat 52, .ofNat 54, .ofNat 53, .ofNat 54, .ofNat 54, .ofNat 54, .ofNat 55, .ofNat 54, .ofNat 56, .ofNat 54, .ofNat 57, .ofNat 55, .ofNat 48, .ofNat 55, .ofNat 49, .ofNat 55, .ofNat 50, .ofNat 55, .ofNat 51, .ofNat 55, .ofNat 52, .ofNat 55, .ofNat 53, .ofNat 55, .ofNat 54, .ofNat 55, .ofNat 55, .ofNat 55, .ofNat 56, .ofNat 55, .ofNat 57, .ofNat 56, .ofNat 48, .ofNat 56, .ofNat 49, .ofNat 56, .ofNat 50, .ofNat 56, .ofNat 51, .ofNat 56, .ofNat 52, .ofNat 56, .ofNat 53, .ofNat 56, .ofNat 54, .ofNat 56, .ofNat 55, .ofNat 56, .ofNat 56, .ofNat 56, .ofNat 57, .ofNat 57, .ofNat 48, .ofNat 57, .ofNat 49, .ofNat 57, .ofNat 50, .ofNat 57, .ofNat 51, .ofNat 57, .ofNat 52, .ofNat 57, .ofNat 53, .ofNat 57, .ofNat 54, .ofNat 57, .ofNat 55, .ofNat 57, .ofNat 56, .ofNat 57, .ofNat 57])) (T 49)),
  m 51 9,
  a 52 (.idxStr (.k (.str [.ofNat 48, .ofNat 48, .ofNat 48, .ofNat 49, .ofNat 48, .ofNat 50, .ofNat 48, .ofNat 51, .ofNat 48, .ofNat 52, .ofNat 48, .ofNat 53, .ofNat 48, .ofNat 54, .ofNat 48, .ofNat 55, .ofNat 48, .ofNat 56, .ofNat 48, .ofNat 57, .ofNat 49, .ofNat 48, .ofNat 49, .ofNat 49, .ofNat 49, .ofNat 50, .ofNat 49, .ofNat 51, .ofNat 49, .ofNat 52, .ofNat 49, .ofNat 53, .ofNat 49, .ofNat 54, .ofNat 49, .ofNat 55, .ofNat 49, .ofNat 56, .ofNat 49, .ofNat 57, .ofNat 50, .ofNat 48, .ofNat 50, .ofNat 49, .ofNat 50, .ofNat 50, .ofNat 50, .ofNat 51, .ofNat 50, .ofNat 52, .ofNat 50, .ofNat 53, .ofNat 50, .ofNat 54, .ofNat 50, .ofNat 55, .ofNat 50, .ofNat 56, .ofNat 50, .ofNat 57, .ofNat 51, .ofNat 48, .ofNat 51, .ofNat 49, .ofNat 51, .ofNat 50, .ofNat 51, .ofNat 51, .ofNat 51, .ofNat 52, .ofNat 51, .ofNat 53, .ofNat 51, .ofNat 54, .ofNat 51, .ofNat 55, .ofNat 51, .ofNat 56, .ofNat 51, .ofNat 57, .ofNat 52, .ofNat 48, .ofNat 52, .ofNat 49, .ofNat 52, .ofNat 50, .ofNat 52, .ofNat 51, .ofNat 52, .ofNat 52, .ofNat 52, .ofNat 53, .ofNat 52, .ofNat 54, .ofNat 52, .ofNat 55, .ofNat 52, .ofNat 56, .ofNat 52, .ofNat 57, .ofNat 53, .ofNat 48, .ofNat 53, .ofNat 49, .ofNat 53, .ofNat 50, .ofNat 53, .ofNat 51, .ofNat 53, .ofNat 52, .ofNat 53, .ofNat 53, .ofNat 53, .ofNat 54, .ofNat 53, .ofNat 55, .ofNat 53, .ofNat 56, .ofNat 53, .ofNat 57, .ofNat 54, .ofNat 48, .ofNat 54, .ofNat 49, .ofNat 54, .ofNat 50, .ofNat 54, .ofNat 51, .ofNat 54, .ofNat 52, .ofNat 54, .ofNat 53, .ofNat 54, .ofNat 54, .ofNat 54, .ofNat 55, .ofNat 54, .ofNat 56, .ofNat 54, .ofNat 57, .ofNat 55, .ofNat 48, .ofNat 55, .ofNat 49, .ofNat 55, .ofNat 50, .ofNat 55, .ofNat 51, .ofNat 55, .ofNat 52, .ofNat 55, .ofNat 53, .ofNat 55, .ofNat 54, .ofNat 55, .ofNat 55, .ofNat 55, .ofNat 56, .ofNat 55, .ofNat 57, .ofNat 56, .ofNat 48, .ofNat 56, .ofNat 49, .ofNat 56, .ofNat 50, .ofNat 56, .ofNat 51, .ofNat 56, .ofNat 52, .ofNat 56, .ofNat 53, .ofNat 56, .ofNat 54, .ofNat 56, .ofNat 55, .ofNat 56, .ofNat 56, .ofNat 56, .ofNat 57, .ofNat 57, .ofNat 48, .ofNat 57, .ofNat 49, .ofNat 57, .ofNat 50, .ofNat 57, .ofNat 51, .ofNat 57, .ofNat 52, .ofNat 57, .ofNat 53, .ofNat 57, .ofNat 54, .ofNat 57, .ofNat 55, .ofNat 57, .ofNat 56, .ofNat 57, .ofNat 57])) (T 51)),
  a 53 (.idxSl 1 (T 42) (T 44)),
  n (.store 1 (T 53) (T 50)),
  a 54 (.idxSl 1 (T 45) (T 47)),
  n (.store 1 (T 54) (T 52))] [[], [], [1], [], [], [4], [], [6], [7, 6], [], [9], [0, 2, 0, 1, 2, 6, 7, 8, 1, 1, 6, 7, 6], [11, 8, 0, 1, 2, 6, 7, 8, 0, 2, 0, 1, 2, 6, 7, 8, 1, 1, 6, 7, 6, 7, 6, 1, 6, 7, 6], [3, 5, 0, 1, 2, 3, 4, 5, 6, 7, 8, 9, 10, 11, 12, 4, 1, 4, 6, 7, 6, 9, 0, 2, 0, 1, 2, 6, 7, 8, 1, 1, 6, 7, 6, 11, 8, 0, 1, 2, 6, 7, 8, 0, 2, 0, 1, 2, 6, 7, 8, 1, 1, 6, 7, 6, 7, 6, 1, 6, 7, 6], [13, 10, 12, 0, 1, 2, 3, 4, 5, 6, 7, 8, 9, 10, 11, 12, 3, 5, 0, 1, 2, 3, 4, 5, 6, 7, 8, 9, 10, 11, 12, 4, 1, 4, 6, 7, 6, 9, 0, 2, 0, 1, 2, 6, 7, 8, 1, 1, 6, 7, 6, 11, 8, 0, 1, 2, 6, 7, 8, 0, 2, 0, 1, 2, 6, 7, 8, 1, 1, 6, 7, 6, 7, 6, 1, 6, 7, 6, 9, 11, 8, 0, 1, 2, 6, 7, 8, 0, 2, 0, 1, 2, 6, 7, 8, 1, 1, 6, 7, 6, 7, 6, 1, 6, 7, 6, 1, 4, 6, 7, 6, 9, 0, 2, 0, 1, 2, 6, 7, 8, 1, 1, 6, 7, 6, 11, 8, 0, 1, 2, 6, 7, 8, 0, 2, 0, 1, 2, 6, 7, 8, 1, 1, 6, 7, 6, 7, 6, 1, 6, 7, 6]])
 (.live [0, 1, 4, 8, 10, 11] (.seq (.dops [m 55 0,
  m 56 4,
  a 57 (.bin .sub (T 56) (.k (I 3))),
  m 58 0,
  m 59 4,
  a 60 (.bin .sub (T 59) (.k (I 4))),
  m 61 8,
  a 62 (.bin .add (T 61) (.k (.int .u32 (.ofNat 1)))),
  a 63 (.idxStr (.k (.str [.ofNat 48, .ofNat 48, .ofNat 48, .ofNat 49, .ofNat 48, .ofNat 50, .ofNat 48, .ofNat 51, .ofNat 48, .ofNat 52, .ofNat 48, .ofNat 53, .ofNat 48, .ofNat 54, .ofNat 48, .ofNat 55, .ofNat 48, .ofNat 56, .ofNat 48, .ofNat 57, .ofNat 49, .ofNat 48, .ofNat 49, .ofNat 49, .ofNat 49, .ofNat 50, .ofNat 49, .ofNat 51, .ofNat 49, .ofNat 52, .ofNat 49, .ofNat 53, .ofNat 49, .ofNat 54, .ofNat 49, .ofNat 55, .ofNat 49, .ofNat 56, .ofNat 49, .ofNat 57, .ofNat 50, .ofNat 48, .ofNat 50, .ofNat 49, .ofNat 50, .ofNat 50, .ofNat 50, .ofNat 51, .ofNat 50, .ofNat 52, .ofNat 50, .ofNat 53, .ofNat 50, .ofNat 54, .ofNat 50, .ofNat 55, .ofNat 50, .ofNat 56, .ofNat 50, .ofNat 57, .ofNat 51, .ofNat 48, .ofNat 51, .ofNat 49, .ofNat 51, .ofNat 50, .ofNat 51, .ofNat 51, .ofNat 51, .ofNat 52, .ofNat 51, .ofNat 53, .ofNat 51, .ofNat 54, .ofNat 51, .ofNat 55, .ofNat 51, .ofNat 56, .ofNat 51, .ofNat 57, .ofNat 52, .ofNat 48, .ofNat 52, .ofNat 49, .ofNat 52, .ofNat 50, .ofNat 52, .ofNat 51, .ofNat 52, .ofNat 52, .ofNat 52, .ofNat 53, .ofNat 52, .ofNat 54, .ofNat 52, .ofNat 55, .ofNat 52, .ofNat 56, .ofNat 52, .ofNat 57, .ofNat 53, .ofNat 48, .ofNat 53, .ofNat 49, .ofNat 53, .ofNat 50, .ofNat 53, .ofNat 51, .ofNat 53, .ofNat 52, .ofNat 53, .ofNat 53, .ofNat 53, .ofNat 54, .ofNat 53, .ofNat 55, .ofNat 53, .ofNat 56, .ofNat 53, .ofNat 57, .ofNat 54, .ofNat 48, .ofNat 54, .ofNat 49, .ofNat 54, .ofNat 50, .ofNat 54, .ofNat 51, .ofNat 54, .ofNat 52, .ofNat 54, .ofNat 53, .ofNat 54, .ofNat 54, .ofNat 54, .ofNat 55, .ofNat 54, .ofNat 56, .ofNat 54, .ofNat 57, .ofNat 55, .ofNat 48, .ofNat 55, .ofNat 49, .ofNat 55, .ofNat 50, .ofNat 55, .ofNat 51, .ofNat 55, .ofNat 52, .ofNat 55, .ofNat 53, .ofNat 55, .ofNat 54, .ofNat 55, .ofNat 55, .ofNat 55, .ofNat 56, .ofNat 55, .ofNat 57, .ofNat 56, .ofNat 48, .ofNat 56, .ofNat 49, .ofNat 56, .ofNat 50, .ofNat 56, .ofNat 51, .ofNat 56, .ofNat 52, .ofNat 56, .ofNat 53, .ofNat 56, .ofNat 54, .ofNat 56, .ofNat 55, .ofNat 56, .ofNat 56, .ofNat 56, .ofNat 57, .ofNat 57, .ofNat 48, .ofNat 57, .ofNat 49, .ofNat 57, .ofNat 50, .ofNat 57, .ofNat 51, .ofNat 57, .ofNat 52, .ofNat 57, .ofNat 53, .ofNat 57, .ofNat 54, .ofNat 57, .ofNat 55, .ofNat 57, .ofNat 56, .ofNat 57, .ofNat 57])) (T 62)),
  m 64 8,
  a 65 (.idxStr (.k (.str [.ofNat 48, .ofNat 48, .ofNat 48, .ofNat 49, .ofNat 48, .ofNat 50, .ofNat 48, .ofNat 51, .ofNat 48, .ofNat 52, .ofNat 48, .ofNat 53, .ofNat 48, .ofNat 54, .ofNat 48, .ofNat 55, .ofNat 48, .ofNat 56, .ofNat 48, .ofNat 57, .ofNat 49, .ofNat 48, .ofNat 49, .ofNat 49, .ofNat 49, .ofNat 50, .ofNat 49, .ofNat 51, .ofNat 49, .ofNat 52, .ofNat 49, .ofNat 53, .ofNat 49, .ofNat 54, .ofNat 49, .ofNat 55, .ofNat 49, .ofNat 56, .ofNat 49, .ofNat 57, .ofNat 50, .ofNat 48, .ofNat 50, .ofNat 49, .ofNat 50, .ofNat 50, .ofNat 50, .ofNat 51, .ofNat 50, .ofNat 52, .ofNat 50, .ofNat 53, .ofNat 50, .ofNat 54, .ofNat 50, .ofNat 55, .ofNat 50, .ofNat 56, .ofNat 50, .ofNat 57, .ofNat 51, .ofNat 48, .ofNat 51, .ofNat 49, .ofNat 51, .ofNat 50, .ofNat 51, .ofNat 51, .ofNat 51, .ofNat 52, .ofNat 51, .ofNat 53, .ofNat 51, .ofNat 54, .ofNat 51, .ofNat 55, .ofNat 51, .ofNat 56, .ofNat 51, .ofNat 57, .ofNat 52, .ofNat 48, .ofNat 52, .ofNat 49, .ofNat 52, .ofNat 50, .ofNat 52, .ofNat 51, .ofNat 52, .ofNat 52, .ofNat 52, .ofNat 53, .ofNat 52, .ofNat 54, .ofNat 52, .ofNat 55, .ofNat 52, .ofNat 56, .ofNat 52, .ofNat 57, .ofNat 53, .ofNat 48, .ofNat 53, .ofNat 49, .ofNat 53, .ofNat 50, .ofNat 53, .ofNat 51, .ofNat 53, .ofNat 52, .ofNat 53, .ofNat 53, .ofNat 53, .ofNat 54, .ofNat 53, .ofNat 55, .ofNat 53, .ofNat 56, .ofNat 53, .ofNat 57, .ofNat 54, .ofNat 48, .ofNat 54, .ofNat 49, .ofNat 54, .ofNat 50, .ofNat 54, .ofNat 51, .ofNat 54, .ofNat 52, .ofNat 54, .ofNat 53, .ofNat 54, .ofNat 54, .ofNat 54, .ofNat 55, .ofNat 54, .ofNat 56, .ofNat 54, .ofNat 57, .ofNat 55, .ofNat 48, .ofNat 55, .ofNat 49, .ofNat 55, .ofNat 50, .ofNat 55, .ofNat 51, .ofNat 55, .ofNat 52, .ofNat 55, .ofNat 53, .ofNat 55, .ofNat 54, .ofNat 55, .ofNat 55, .ofNat 55, .ofNat 56, .ofNat 55, .ofNat 57, .ofNat 56, .ofNat 48, .ofNat 56, .ofNat 49, .ofNat 56, .ofNat 50, .ofNat 56, .ofNat 51, .ofNat 56, .ofNat 52, .ofNat 56, .ofNat 53, .ofNat 56, .ofNat 54, .ofNat 56, .ofNat 55, .ofNat 56, .ofNat 56, .ofNat 56, .ofNat 57, .ofNat 57, .ofNat 48, .ofNat 57, .ofNat 49, .ofNat 57, .ofNat 50, .ofNat 57, .ofNat 51, .ofNat 57, .ofNat 52, .ofNat 57, .ofNat 53, .ofNat 57, .ofNat 54, .ofNat 57, .ofNat 55, .ofNat 57, .ofNat 56, .ofNat 57, .ofNat 57])) (T 64)),
  a 66 (.idxSl 1 (T 55) (T 57)),
  n (.store 1 (T 66) (T 63)),
  a 67 (.idxSl 1 (T 58) (T 60)),
  n (.store 1 (T 67) (T 65))] [[], [], [1], [], [], [4], [], [6], [7, 6], [], [9], [0, 2, 0, 1, 2, 6, 7, 8, 1, 1, 6, 7, 6], [11, 8, 0, 1, 2, 6, 7, 8, 0, 2, 0, 1, 2, 6, 7, 8, 1, 1, 6, 7, 6, 7, 6, 1, 6, 7, 6], [3, 5, 0, 1, 2, 3, 4, 5, 6, 7, 8, 9, 10, 11, 12, 4, 1, 4, 6, 7, 6, 9, 0, 2, 0, 1, 2, 6, 7, 8, 1, 1, 6, 7, 6, 11, 8, 0, 1, 2, 6, 7, 8, 0, 2, 0, 1, 2, 6, 7, 8, 1, 1, 6, 7, 6, 7, 6, 1, 6, 7, 6], [13, 10, 12, 0, 1, 2, 3, 4, 5, 6, 7, 8, 9, 10, 11, 12, 3, 5, 0, 1, 2, 3, 4, 5, 6, 7, 8, 9, 10, 11, 12, 4, 1, 4, 6, 7, 6, 9, 0, 2, 0, 1, 2, 6, 7, 8, 1, 1, 6, 7, 6, 11, 8, 0, 1, 2, 6, 7, 8, 0, 2, 0, 1, 2, 6, 7, 8, 1, 1, 6, 7, 6, 7, 6, 1, 6, 7, 6, 9, 11, 8, 0, 1, 2, 6, 7, 8, 0, 2, 0, 1, 2, 6, 7, 8, 1, 1, 6, 7, 6, 7, 6, 1, 6, 7, 6, 1, 4, 6, 7, 6, 9, 0, 2, 0, 1, 2, 6, 7, 8, 1, 1, 6, 7, 6, 11, 8, 0, 1, 2, 6, 7, 8, 0, 2, 0, 1, 2, 6, 7, 8, 1, 1, 6, 7, 6, 7, 6, 1, 6, 7, 6]])
 (.live [0, 1, 4, 10, 11] (.seq (.dops [m 68 0,
  m 69 4,
  a 70 (.bin .sub (T 69) (.k (I 5))),
  m 71 0,
  m 72 4,
  a 73 (.bin .sub (T 72) (.k (I 6))),
  m 74 11,
  a 75 (.bin .add (T 74) (.k (.int .u32 (.ofNat 1)))),
  a 76 (.idxStr (.k (.str [.ofNat 48, .ofNat 48, .ofNat 48, .ofNat 49, .ofNat 48, .ofNat 50, .ofNat 48, .ofNat 51, .ofNat 48, .ofNat 52, .ofNat 48, .ofNat 53, .ofNat 48, .ofNat 54, .ofNat 48, .ofNat 55, .ofNat 48, .ofNat 56, .ofNat 48, .ofNat 57, .ofNat 49, .ofNat 48, .ofNat 49, .ofNat 49, .ofNat 49, .ofNat 50, .ofNat 49, .ofNat 51, .ofNat 49, .ofNat 52, .ofNat 49, .ofNat 53, .ofNat 49, .ofNat 54, .ofNat 49, .ofNat 55, .ofNat 49, .ofNat 56, .ofNat 49, .ofNat 57, .ofNat 50, .ofNat 48, .ofNat 50, .ofNat 49, .ofNat 50, .ofNat 50, .ofNat 50, .ofNat 51, .ofNat 50, .ofNat 52, .ofNat 50, .ofNat 53, .ofNat 50, .ofNat 54, .ofNat 50, .ofNat 55, .ofNat 50, .ofNat 56, .ofNat 50, .ofNat 57, .ofNat 51, .ofNat 48, .ofNat 51, .ofNat 49, .ofNat 51, .ofNat 50, .ofNat 51, .ofNat 51, .ofNat 51, .ofNat 52, .ofNat 51, .ofNat 53, .ofNat 51, .ofNat 54, .ofNat 51, .ofNat 55, .ofNat 51, .ofNat 56, .ofNat 51, .ofNat 57, .ofNat 52, .ofNat 48, .ofNat 52, .ofNat 49, .ofNat 52, .ofNat 50, .ofNat 52, .ofNat 51, .ofNat 52, .ofNat 52, .ofNat 52, .ofNat 53, .ofNat 52, .ofNat 54, .ofNat 52, .ofNat 55, .ofNat 52, .ofNat 56, .ofNat 52, .ofNat 57, .ofNat 53, .ofNat 48, .ofNat 53, .ofNat 49, .ofNat 53, .ofNat 50, .ofNat 53, .ofNat 51, .ofNat 53, .ofNat 52, .ofNat 53, .ofNat 53, .ofNat 53, .ofNat 54, .ofNat 53, .ofNat 55, .ofNat 53, .ofNat 56, .ofNat 53, .ofNat 57, .ofNat 54, .ofNat 48, .ofNat 54, .ofNat 49, .ofNat 54, .ofNat 50, .ofNat 54, .ofNat 51, .ofNat 54, .ofNat 52, .ofNat 54, .ofNat 53, .ofNat 54, .ofNat 54, .ofNat 54, .ofNat 55, .ofNat 54, .ofNat 56, .ofNat 54, .ofNat 57, .ofNat 55, .ofNat 48, .ofNat 55, .ofNat 49, .ofNat 55, .ofNat 50, .ofNat 55, .ofNat 51, .ofNat 55, .ofNat 52, .ofNat 55, .ofNat 53, .ofNat 55, .ofNat 54, .ofNat 55, .ofNat 55, .ofNat 55, .ofNat 56, .ofNat 55, .ofNat 57, .ofNat 56, .ofNat 48, .ofNat 56, .ofNat 49, .ofNat 56, .ofNat 50, .ofNat 56, .ofNat 51, .ofNat 56, .ofNat 52, .ofNat 56, .ofNat 53, .ofNat 56, .ofNat 54, .ofNat 56, .ofNat 55, .ofNat 56, .ofNat 56, .ofNat 56, .ofNat 57, .ofNat 57, .ofNat 48, .ofNat 57, .ofNat 49, .ofNat 57, .ofNat 50, .ofNat 57, .ofNat 51, .ofNat 57, .ofNat 52, .ofNat 57, .ofNat 53, .ofNat 57, .ofNat 54, .ofNat 57, .ofNat 55, .ofNat 57, .ofNat 56, .ofNat 57, .ofNat 57])) (T 75)),
  m 77 11,
  a 78 (.idxStr (.k (.str [.ofNat 48, .ofNat 48, .ofNat 48, .ofNat 49, .ofNat 48, .ofNat 50, .ofNat 48, .ofNat 51, .ofNat 48, .ofNat 52, .ofNat 48, .ofNat 53, .ofNat 48, .ofNat 54, .ofNat 48, .ofNat 55, .ofNat 48, .ofNat 56, .ofNat 48, .ofNat 57, .ofNat 49, .ofNat 48, .ofNat 49, .ofNat 49, .ofNat 49, .ofNat 50, .ofNat 49, .ofNat 51, .ofNat 49, .ofNat 52, .ofNat 49, .ofNat 53, .ofNat 49, .ofNat 54, .ofNat 49, .ofNat 55, .ofNat 49, .ofNat 56, .ofNat 49, .ofNat 57, .ofNat 50, .ofNat 48, .ofNat 50, .ofNat 49, .ofNat 50, .ofNat 50, .ofNat 50, .ofNat 51, .ofNat 50, .ofNat 52, .ofNat 50, .ofNat 53, .ofNat 50, .ofNat 54, .ofNat 50, .ofNat 55, .ofNat 50, .ofNat 56, .ofNat 50, .ofNat 57, .ofNat 51, .ofNat 48, .ofNat 51, .ofNat 49, .ofNat 51, .ofNat 50, .ofNat 51, .ofNat 51, .ofNat 51, .ofNat 52, .ofNat 51, .ofNat 53, .ofNat 51, .ofNat 54, .ofNat 51, .ofNat 55, .ofNat 51, .ofNat 56, .ofNat 51, .ofNat 57, .ofNat 52, .ofNat 48, .ofNat 52, .ofNat 49, .ofNat 52, .ofNat 50, .ofNat 52, .ofNat 51, .ofNat 52, .ofNat 52, .ofNat 52, .ofNat 53, .ofNat 52, .ofNat 54, .ofNat 52, .ofNat 55, .ofNat 52, .ofNat 56, .ofNat 52, .ofNat 57, .ofNat 53, .ofNat 48, .ofNat 53, .ofNat 49, .ofNat 53, .ofNat 50, .ofNat 53, .ofNat 51, .ofNat 53, .ofNat 52, .ofNat 53, .ofNat 53, .ofNat 53, .ofNat 54, .ofNat 53, .ofNat 55, .ofNat 53, .ofNat 56, .ofNat 53, .ofNat 57, .ofNat 54, .ofNat 48, .ofNat 54, .ofNat 49, .ofNat 54, .ofNat 50, .ofNat 54, .ofNat 51, .ofNat 54, .ofNat 52, .ofNat 54, .ofNat 53, .ofNat 54, .ofNat 54, .ofNat 54, .ofNat 55, .ofNat 54, .ofNat 56, .ofNat 54, .ofNat 57, .ofNat 55, .ofNat 48, .ofNat 55, .ofNat 49, .ofNat 55, .ofNat 50, .ofNat 55, .ofNat 51, .ofNat 55, .ofNat 52, .ofNat 55, .ofNat 53, .ofNat 55, .ofNat 54, .ofNat 55, .ofNat 55, .ofNat 55, .ofNat 56, .ofNat 55, .ofNat 57, .ofNat 56, .ofNat 48, .ofNat 56, .ofNat 49, .ofNat 56, .ofNat 50, .ofNat 56, .ofNat 51, .ofNat 56, .ofNat 52, .ofNat 56, .ofNat 53, .ofNat 56, .ofNat 54, .ofNat 56, .ofNat 55, .ofNat 56, .ofNat 56, .ofNat 56, .ofNat 57, .ofNat 57, .ofNat 48, .ofNat 57, .ofNat 49, .ofNat 57, .ofNat 50, .ofNat 57, .ofNat 51, .ofNat 57, .ofNat 52, .ofNat 57, .ofNat 53, .ofNat 57, .ofNat 54, .ofNat 57, .ofNat 55, .ofNat 57, .ofNat 56, .ofNat 57, .ofNat 57])) (T 77)),
  a 79 (.idxSl 1 (T 68) (T 70)),
  n (.store 1 (T 79) (T 76)),
  a 80 (.idxSl 1 (T 71) (T 73)),
  n (.store 1 (T 80) (T 78))] [[], [], [1], [], [], [4], [], [6], [7, 6], [], [9], [0, 2, 0, 1, 2, 6, 7, 8, 1, 1, 6, 7, 6], [11, 8, 0, 1, 2, 6, 7, 8, 0, 2, 0, 1, 2, 6, 7, 8, 1, 1, 6, 7, 6, 7, 6, 1, 6, 7, 6], [3, 5, 0, 1, 2, 3, 4, 5, 6, 7, 8, 9, 10, 11, 12, 4, 1, 4, 6, 7, 6, 9, 0, 2, 0, 1, 2, 6, 7, 8, 1, 1, 6, 7, 6, 11, 8, 0, 1, 2, 6, 7, 8, 0, 2, 0, 1, 2, 6, 7, 8, 1, 1, 6, 7, 6, 7, 6, 1, 6, 7, 6], [13, 10, 12, 0, 1, 2, 3, 4, 5, 6, 7, 8, 9, 10, 11, 12, 3, 5, 0, 1, 2, 3, 4, 5, 6, 7, 8, 9, 10, 11, 12, 4, 1, 4, 6, 7, 6, 9, 0, 2, 0, 1, 2, 6, 7, 8, 1, 1, 6, 7, 6, 11, 8, 0, 1, 2, 6, 7, 8, 0, 2, 0, 1, 2, 6, 7, 8, 1, 1, 6, 7, 6, 7, 6, 1, 6, 7, 6, 9, 11, 8, 0, 1, 2, 6, 7, 8, 0, 2, 0, 1, 2, 6, 7, 8, 1, 1, 6, 7, 6, 7, 6, 1, 6, 7, 6, 1, 4, 6, 7, 6, 9, 0, 2, 0, 1, 2, 6, 7, 8, 1, 1, 6, 7, 6, 11, 8, 0, 1, 2, 6, 7, 8, 0, 2, 0, 1, 2, 6, 7, 8, 1, 1, 6, 7, 6, 7, 6, 1, 6, 7, 6]])
 (.live [0, 1, 4, 10] (.seq (.dops [m 81 0,
  m 82 4,
  a 83 (.bin .sub (T 82) (.k (I 7))),
  m 84 0,
  m 85 4,
  a 86 (.bin .sub (T 85) (.k (I 8))),
  m 87 10,
  a 88 (.bin .add (T 87) (.k (.int .u32 (.ofNat 1)))),
  a 89 (.idxStr (.k (.str [.ofNat 48, .ofNat 48, .ofNat 48, .ofNat 49, .ofNat 48, .ofNat 50, .ofNat 48, .ofNat 51, .ofNat 48, .ofNat 52, .ofNat 48, .ofNat 53, .ofNat 48, .ofNat 54, .ofNat 48, .ofNat 55, .ofNat 48, .ofNat 56, .ofNat 48, .ofNat 57, .ofNat 49, .ofNat 48, .ofNat 49, .ofNat 49, .ofNat 49, .ofNat 50, .ofNat 49, .ofNat 51, .ofNat 49, .ofNat 52, .ofNat 49, .ofNat 53, .ofNat 49, .ofNat 54, .ofNat 49, .ofNat 55, .ofNat 49, .ofNat 56, .ofNat 49, .ofNat 57, .ofNat 50, .ofNat 48, .ofNat 50, .ofNat 49, .ofNat 50, .ofNat 50, .ofNat 50, .ofNat 51, .ofNat 50, .ofNat 52, .ofNat 50, .ofNat 53, .ofNat 50, .ofNat 54, .ofNat 50, .ofNat 55, .ofNat 50, .ofNat 56, .ofNat 50, .ofNat 57, .ofNat 51, .ofNat 48, .ofNat 51, .ofNat 49, .ofNat 51, .ofNat 50, .ofNat 51, .ofNat 51, .ofNat 51, .ofNat 52, .ofNat 51, .ofNat 53, .ofNat 51, .ofNat 54, .ofNat 51, .ofNat 55, .ofNat 51, .ofNat 56, .ofNat 51, .ofNat 57, .ofNat 52, .ofNat 48, .ofNat 52, .ofNat 49, .ofNat 52, .ofNat 50, .ofNat 52, .ofNat 51, .ofNat 52, .ofNat 52, .ofNat 52, .ofNat 53, .ofNat 52, .ofNat 54, .ofNat 52, .ofNat 55, .ofNat 52, .ofNat 56, .ofNat 52, .ofNat 57, .ofNat 53, .ofNat 48, .ofNat 53, .ofNat 49, .ofNat 53, .ofNat 50, .ofNat 53, .ofNat 51, .ofNat 53, .ofNat 52, .ofNat 53, .ofNat 53, .ofNat 53, .ofNat 54, .ofNat 53, .ofNat 55, .ofNat 53, .ofNat 56, .ofNat 53, .ofNat 57, .ofNat 54, .ofNat 48, .ofNat 54, .ofNat 49, .ofNat 54, .ofNat 50, .ofNat 54, .ofNat 51, .ofNat 54, .ofNat 52, .ofNat 54, .ofNat 53, .ofNat 54, .ofNat 54, .ofNat 54, .ofNat 55, .ofNat 54, .ofNat 56, .ofNat 54, .ofNat 57, .ofNat 55, .ofNat 48, .ofNat 55, .ofNat 49, .ofNat 55, .ofNat 50, .ofNat 55, .ofNat 51, .ofNat 55, .ofNat 52, .ofNat 55, .ofNat 53, .ofNat 55, .ofNat 54, .ofNat 55, .ofNat 55, .ofNat 55, .ofNat 56, .ofNat 55, .ofNat 57, .ofNat 56, .ofNat 48, .ofNat 56, .ofNat 49, .ofNat 56, .ofNat 50, .ofNat 56, .ofNat 51, .ofNat 56, .ofNat 52, .ofNat 56, .ofNat 53, .ofNat 56, .ofNat 54, .ofNat 56, .ofNat 55, .ofNat 56, .ofNat 56, .ofNat 56, .ofNat 57, .ofNat 57, .ofNat 48, .ofNat 57, .ofNat 49, .ofNat 57, .ofNat 50, .ofNat 57, .ofNat 51, .ofNat 57, .ofNat 52, .ofNat 57, .ofNat 53, .ofNat 57, .ofNat 54, .ofNat 57, .ofNat 55, .ofNat 57, .ofNat 56, .ofNat 57, .ofNat 57])) (T 88)),
  m 90 10,
  a 91 (.idxStr (.k (.str [.ofNat 48, .ofNat 48, .ofNat 48, .ofNat 49, .ofNat 48, .ofNat 50, .ofNat 48, .ofNat 51, .ofNat 48, .ofNat 52, .ofNat 48, .ofNat 53, .ofNat 48, .ofNat 54, .ofNat 48, .ofNat 55, .ofNat 48, .ofNat 56, .ofNat 48, .ofNat 57, .ofNat 49, .ofNat 48, .ofNat 49, .ofNat 49, .ofNat 49, .ofNat 50, .ofNat 49, .ofNat 51, .ofNat 49, .ofNat 52, .ofNat 49, .ofNat 53, .ofNat 49, .ofNat 54, .ofNat 49, .ofNat 55, .ofNat 49, .ofNat 56, .ofNat 49, .ofNat 57, .ofNat 50, .ofNat 48, .ofNat 50, .ofNat 49, .ofNat 50, .ofNat 50, .ofNat 50, .ofNat 51, .ofNat 50, .ofNat 52, .ofNat 50, .ofNat 53, .ofNat 50, .ofNat 54, .ofNat 50, .ofNat 55, .ofNat 50, .ofNat 56, .ofNat 50, .ofNat 57, .ofNat 51, .ofNat 48, .ofNat 51, .ofNat 49, .ofNat 51, .ofNat 50, .ofNat 51, .ofNat 51, .ofNat 51, .ofNat 52, .ofNat 51, .ofNat 53, .ofNat 51, .ofNat 54, .ofNat 51, .ofNat 55, .ofNat 51, .ofNat 56, .ofNat 51, .ofNat 57, .ofNat 52, .ofNat 48, .ofNat 52, .ofNat 49, .ofNat 52, .ofNat 50, .ofNat 52, .ofNat 51, .ofNat 52, .ofNat 52, .ofNat 52, .ofNat 53, .ofNat 52, .ofNat 54, .ofNat 52, .ofNat 55, .ofNat 52, .ofNat 56, .ofNat 52, .ofNat 57, .ofNat 53, .ofNat 48, .ofNat 53, .ofNat 49, .ofNat 53, .ofNat 50, .ofNat 53, .ofNat 51, .ofNat 53, .ofNat 52, .ofNat 53, .ofNat 53, .ofNat 53, .ofNat 54, .ofNat 53, .ofNat 55, .ofNat 53, .ofNat 56, .ofNat 53, .ofNat 57, .ofNat 54, .ofNat 48, .ofNat 54, .ofNat 49, .ofNat 54, .ofNat 50, .ofNat 54, .ofNat 51, .ofNat 54, .ofNat 52, .ofNat 54, .ofNat 53, .ofNat 54, .ofNat 54, .ofNat 54, .ofNat 55, .ofNat 54, .ofNat 56, .ofNat 54, .ofNat 57, .ofNat 55, .ofNat 48, .ofNat 55, .ofNat 49, .ofNat 55, .ofNat 50, .ofNat 55, .ofNat 51, .ofNat 55, .ofNat 52, .ofNat 55, .ofNat 53, .ofNat 55, .ofNat 54, .ofNat 55, .ofNat 55, .ofNat 55, .ofNat 56, .ofNat 55, .ofNat 57, .ofNat 56, .ofNat 48, .ofNat 56, .ofNat 49, .ofNat 56, .ofNat 50, .ofNat 56, .ofNat 51, .ofNat 56, .ofNat 52, .ofNat 56, .ofNat 53, .ofNat 56, .ofNat 54, .ofNat 56, .ofNat 55, .ofNat 56, .ofNat 56, .ofNat 56, .ofNat 57, .ofNat 57, .ofNat 48, .ofNat 57, .ofNat 49, .ofNat 57, .ofNat 50, .ofNat 57, .ofNat 51, .ofNat 57, .ofNat 52, .ofNat 57, .ofNat 53, .ofNat 57, .ofNat 54, .ofNat 57, .ofNat 55, .ofNat 57, .ofNat 56, .ofNat 57, .ofNat 57])) (T 90)),
  a 92 (.idxSl 1 (T 81) (T 83)),
  n (.store 1 (T 92) (T 89)),
  a 93 (.idxSl 1 (T 84) (T 86)),
  n (.store 1 (T 93) (T 91))] [[], [], [1], [], [], [4], [], [6], [7, 6], [], [9], [0, 2, 0, 1, 2, 6, 7, 8, 1, 1, 6, 7, 6], [11, 8, 0, 1, 2, 6, 7, 8, 0, 2, 0, 1, 2, 6, 7, 8, 1, 1, 6, 7, 6, 7, 6, 1, 6, 7, 6], [3, 5, 0, 1, 2, 3, 4, 5, 6, 7, 8, 9, 10, 11, 12, 4, 1, 4, 6, 7, 6, 9, 0, 2, 0, 1, 2, 6, 7, 8, 1, 1, 6, 7, 6, 11, 8, 0, 1, 2, 6, 7, 8, 0, 2, 0, 1, 2, 6, 7, 8, 1, 1, 6, 7, 6, 7, 6, 1, 6, 7, 6], [13, 10, 12, 0, 1, 2, 3, 4, 5, 6, 7, 8, 9, 10, 11, 12, 3, 5, 0, 1, 2, 3, 4, 5, 6, 7, 8, 9, 10, 11, 12, 4, 1, 4, 6, 7, 6, 9, 0, 2, 0, 1, 2, 6, 7, 8, 1, 1, 6, 7, 6, 11, 8, 0, 1, 2, 6, 7, 8, 0, 2, 0, 1, 2, 6, 7, 8, 1, 1, 6, 7, 6, 7, 6, 1, 6, 7, 6, 9, 11, 8, 0, 1, 2, 6, 7, 8, 0, 2, 0, 1, 2, 6, 7, 8, 1, 1, 6, 7, 6, 7, 6, 1, 6, 7, 6, 1, 4, 6, 7, 6, 9, 0, 2, 0, 1, 2, 6, 7, 8, 1, 1, 6, 7, 6, 11, 8, 0, 1, 2, 6, 7, 8, 0, 2, 0, 1, 2, 6, 7, 8, 1, 1, 6, 7, 6, 7, 6, 1, 6, 7, 6]])
 (.live [0, 1, 4] (.ops [m 94 4,
  a 95 (.bin .sub (T 94) (.k (I 8))),
  m 4 95])))))))))))))))))))))
 (.live [0, 1, 4] (.seq (.ops [m 96 1,
  a 97 (.toInt .u32 (T 96)),
  m 12 97])
 (.seq (.seq (.ops [m 98 4,
  a 99 (.bin .geq (T 98) (.k (I 4)))])
 (.cond (T 99) (.seq (.ops [m 100 12,
  a 101 (.bin .rem (T 100) (.k (.int .u32 (.ofNat 10000)))),
  m 13 101])
 (.seq (.ops [m 102 12,
  a 103 (.bin .quo (T 102) (.k (.int .u32 (.ofNat 10000)))),
  m 12 103])
 (.seq (.ops [m 104 13,
  a 105 (.bin .quo (T 104) (.k (.int .u32 (.ofNat 100)))),
  a 106 (.bin .mul (T 105) (.k (.int .u32 (.ofNat 2)))),
  m 107 13,
  a 108 (.bin .rem (T 107) (.k (.int .u32 (.ofNat 100)))),
  a 109 (.bin .mul (T 108) (.k (.int .u32 (.ofNat 2)))),
  m 14 106,
  m 15 109])
 (.live [0, 4, 12, 14, 15] (.seq (.dops [m 110 0,
  m 111 4,
  a 112 (.bin .sub (T 111) (.k (I 1))),
  m 113 0,
  m 114 4,
  a 115 (.bin .sub (T 114) (.k (I 2))),
  m 116 15,
  a 117 (.bin .add (T 116) (.k (.int .u32 (.ofNat 1)))),
  a 118 (.idxStr (.k (.str [.ofNat 48, .ofNat 48, .ofNat 48, .ofNat 49, .ofNat 48, .ofNat 50, .ofNat 48, .ofNat 51, .ofNat 48, .ofNat 52, .ofNat 48, .ofNat 53, .ofNat 48, .ofNat 54, .ofNat 48, .ofNat 55, .ofNat 48, .ofNat 56, .ofNat 48, .ofNat 57, .ofNat 49, .ofNat 48, .ofNat 49, .ofNat 49, .ofNat 49, .ofNat 50, .ofNat 49, .ofNat 51, .ofNat 49, .ofNat 52, .ofNat 49, .ofNat 53, .ofNat 49, .ofNat 54, .ofNat 49, .ofNat 55, .ofNat 49, .ofNat 56, .ofNat 49, .ofNat 57, .ofNat 50, .ofNat 48, .ofNat 50, .ofNat 49, .ofNat 50, .ofNat 50, .ofNat 50, .ofNat 51, .ofNat 50, .ofNat 52, .ofNat 50, .ofNat 53, .ofNat 50, .ofNat 54, .ofNat 50, .ofNat 55, .ofNat 50, .ofNat 56, .ofNat 50, .ofNat 57, .ofNat 51, .ofNat 48, .ofNat 51, .ofNat 49, .ofNat 51, .ofNat 50, .ofNat 51, .ofNat 51, .ofNat 51, .ofNat 52, .ofNat 51, .ofNat 53, .ofNat 51, .ofNat 54, .ofNat 51, .ofNat 55, .ofNat 51, .ofNat 56, .ofNat 51, .ofNat 57, .ofNat 52, .ofNat 48, .ofNat 52, .ofNat 49, .ofNat 52, .ofNat 50, .ofNat 52, .ofNat 51, .ofNat 52, .ofNat 52, .ofNat 52, .ofNat 53, .ofNat 52, .ofNat 54, .ofNat 52, .ofNat 55, .ofNat 52, .ofNat 56, .ofNat 52, .ofNat 57, .ofNat 53, .ofNat 48, .ofNat 53, .ofNat 49, .ofNat 53, .ofNat 50, .ofNat 53, .ofNat 51, .ofNat 53, .ofNat 52, .ofNat 53, .ofNat 53, .ofNat 53, .ofNat 54, .ofNat 53, .ofNat 55, .ofNat 53, .ofNat 56, .ofNat 53, .ofNat 57, .ofNat 54, .ofNat 48, .ofNat 54, .ofNat 49, .ofNat 54, .ofNat 50, .ofNat 54, .ofNat 51, .ofNat 54, .ofNat 52, .ofNat 54, .ofNat 53, .ofNat 54, .ofNat 54, .ofNat 54, .ofNat 55, .ofNat 54, .ofNat 56, .ofNat 54, .ofNat 57, .ofNat 55, .ofNat 48, .ofNat 55, .ofNat 49, .ofNat 55, .ofNat 50, .ofNat 55, .ofNat 51, .ofNat 55, .ofNat 52, .ofNat 55, .ofNat 53, .ofNat 55, .ofNat 54, .ofNat 55, .ofNat 55, .ofNat 55, .ofNat 56, .ofNat 55, .ofNat 57, .ofNat 56, .ofNat 48, .ofNat 56, .ofNat 49, .ofNat 56, .ofNat 50, .ofNat 56, .ofNat 51, .ofNat 56, .ofNat 52, .ofNat 56, .ofNat 53, .ofNat 56, .ofNat 54, .ofNat 56, .ofNat 55, .ofNat 56, .ofNat 56, .ofNat 56, .ofNat 57, .ofNat 57, .ofNat 48, .ofNat 57, .ofNat 49, .ofNat 57, .ofNat 50, .ofNat 57, .ofNat 51, .ofNat 57, .ofNat 52, .ofNat 57, .ofNat 53, .ofNat 57, .ofNat 54, .ofNat 57, .ofNat 55, .ofNat 57, .ofNat 56, .ofNat 57, .ofNat 57])) (T 117)),
  m 119 15,
  a 120 (.idxStr (.k (.str [.ofNat 48, .ofNat 48, .ofNat 48, .ofNat 49, .ofNat 48, .ofNat 50, .ofNat 48, .ofNat 51, .ofNat 48, .ofNat 52, .ofNat 48, .ofNat 53, .ofNat 48, .ofNat 54, .ofNat 48, .ofNat 55, .ofNat 48, .ofNat 56, .ofNat 48, .ofNat 57, .ofNat 49, .ofNat 48, .ofNat 49, .ofNat 49, .ofNat 49, .ofNat 50, .ofNat 49, .ofNat 51, .ofNat 49, .ofNat 52, .ofNat 49, .ofNat 53, .ofNat 49, .ofNat 54, .ofNat 49, .ofNat 55, .ofNat 49, .ofNat 56, .ofNat 49, .ofNat 57, .ofNat 50, .ofNat 48, .ofNat 50, .ofNat 49, .ofNat 50, .ofNat 50, .ofNat 50, .ofNat 51, .ofNat 50, .ofNat 52, .ofNat 50, .ofNat 53, .ofNat 50, .ofNat 54, .ofNat 50, .ofNat 55, .ofNat 50, .ofNat 56, .ofNat 50, .ofNat 57, .ofNat 51, .ofNat 48, .ofNat 51, .ofNat 49, .ofNat 51, .ofNat 50, .ofNat 51, .ofNat 51, .ofNat 51, .ofNat 52, .ofNat 51, .ofNat 53, .ofNat 51, .ofNat 54, .ofNat 51, .ofNat 55, .ofNat 51, .ofNat 56, .ofNat 51, .ofNat 57, .ofNat 52, .ofNat 48, .ofNat 52, .ofNat 49, .ofNat 52, .ofNat 50, .ofNat 52, .ofNat 51, .ofNat 52, .ofNat 52, .ofNat 52, .ofNat 53, .ofNat 52, .ofNat 54, .ofNat 52, .ofNat 55, .ofNat 52, .ofNat 56, .ofNat 52, .ofNat 57, .ofNat 53, .ofNat 48, .ofNat 53, .ofNat 49, .ofNat 53, .ofNat 50, .ofNat 53, .ofNat 51, .ofNat 53, .ofNat 52, .ofNat 53, .ofNat 53, .ofNat 53, .ofNat 54, .ofNat 53, .ofNat 55, .ofNat 53, .ofNat 56, .ofNat 53, .ofNat 57, .ofNat 54, .ofNat 48, .ofNat 54, .ofNat 49, .ofNat 54, .ofNat 50, .ofNat 54, .ofNat 51, .ofNat 54, .ofNat 52, .ofNat 54, .ofNat 53, .ofNat 54, .ofNat 54, .ofNat 54, .ofNat 55, .ofNat 54, .ofNat 56, .ofNat 54, .ofNat 57, .ofNat 55, .ofNat 48, .ofNat 55, .ofNat 49, .ofNat 55, .ofNat 50, .ofNat 55, .ofNat 51, .ofNat 55, .ofNat 52, .ofNat 55, .ofNat 53, .ofNat 55, .ofNat 54, .ofNat 55, .ofNat 55, .ofNat 55, .ofNat 56, .ofNat 55, .ofNat 57, .ofNat 56, .ofNat 48, .ofNat 56, .ofNat 49, .ofNat 56, .ofNat 50, .ofNat 56, .ofNat 51, .ofNat 56, .ofNat 52, .ofNat 56, .ofNat 53, .ofNat 56, .ofNat 54, .ofNat 56, .ofNat 55, .ofNat 56, .ofNat 56, .ofNat 56, .ofNat 57, .ofNat 57, .ofNat 48, .ofNat 57, .ofNat 49, .ofNat 57, .ofNat 50, .ofNat 57, .ofNat 51, .ofNat 57, .ofNat 52, .ofNat 57, .ofNat 53, .ofNat 57, .ofNat 54, .ofNat 57, .ofNat 55, .ofNat 57, .ofNat 56, .ofNat 57, .ofNat 57])) (T 119)),
  a 121 (.idxSl 1 (T 110) (T 112)),
  n (.store 1 (T 121) (T 118)),
  a 122 (.idxSl 1 (T 113) (T 115)),
  n (.store 1 (T 122) (T 120))] [[], [], [1], [], [], [4], [], [6], [7, 6], [], [9], [0, 2, 0, 1, 2, 6, 7, 8, 1, 1, 6, 7, 6], [11, 8, 0, 1, 2, 6, 7, 8, 0, 2, 0, 1, 2, 6, 7, 8, 1, 1, 6, 7, 6, 7, 6, 1, 6, 7, 6], [3, 5, 0, 1, 2, 3, 4, 5, 6, 7, 8, 9, 10, 11, 12, 4, 1, 4, 6, 7, 6, 9, 0, 2, 0, 1, 2, 6, 7, 8, 1, 1, 6, 7, 6, 11, 8, 0, 1, 2, 6, 7, 8, 0, 2, 0, 1, 2, 6, 7, 8, 1, 1, 6, 7, 6, 7, 6, 1, 6, 7, 6], [13, 10, 12, 0, 1, 2, 3, 4, 5, 6, 7, 8, 9, 10, 11, 12, 3, 5, 0, 1, 2, 3, 4, 5, 6, 7, 8, 9, 10, 11, 12, 4, 1, 4, 6, 7, 6, 9, 0, 2, 0, 1, 2, 6, 7, 8, 1, 1, 6, 7, 6, 11, 8, 0, 1, 2, 6, 7, 8, 0, 2, 0, 1, 2, 6, 7, 8, 1, 1, 6, 7, 6, 7, 6, 1, 6, 7, 6, 9, 11, 8, 0, 1, 2, 6, 7, 8, 0, 2, 0, 1, 2, 6, 7, 8, 1, 1, 6, 7, 6, 7, 6, 1, 6, 7, 6, 1, 4, 6, 7, 6, 9, 0, 2, 0, 1, 2, 6, 7, 8, 1, 1, 6, 7, 6, 11, 8, 0, 1, 2, 6, 7, 8, 0, 2, 0, 1, 2, 6, 7, 8, 1, 1, 6, 7, 6, 7, 6, 1, 6, 7, 6]])
 (.live [0, 4, 12, 14] (.seq (.dops [m 123 0,
  m 124 4,
  a 125 (.bin .sub (T 124) (.k (I 3))),
  m 126 0,
  m 127 4,
  a 128 (.bin .sub (T 127) (.k (I 4))),
  m 129 14,
  a 130 (.bin .add (T 129) (.k (.int .u32 (.ofNat 1)))),
  a 131 (.idxStr (.k (.str [.ofNat 48, .ofNat 48, .ofNat 48, .ofNat 49, .ofNat 48, .ofNat 50, .ofNat 48, .ofNat 51, .ofNat 48, .ofNat 52, .ofNat 48, .ofNat 53, .ofNat 48, .ofNat 54, .ofNat 48, .ofNat 55, .ofNat 48, .ofNat 56, .ofNat 48, .ofNat 57, .ofNat 49, .ofNat 48, .ofNat 49, .ofNat 49, .ofNat 49, .ofNat 50, .ofNat 49, .ofNat 51, .ofNat 49, .ofNat 52, .ofNat 49, .ofNat 53, .ofNat 49, .ofNat 54, .ofNat 49, .ofNat 55, .ofNat 49, .ofNat 56, .ofNat 49, .ofNat 57, .ofNat 50, .ofNat 48, .ofNat 50, .ofNat 49, .ofNat 50, .ofNat 50, .ofNat 50, .ofNat 51, .ofNat 50, .ofNat 52, .ofNat 50, .ofNat 53, .ofNat 50, .ofNat 54, .ofNat 50, .ofNat 55, .ofNat 50, .ofNat 56, .ofNat 50, .ofNat 57, .ofNat 51, .ofNat 48, .ofNat 51, .ofNat 49, .ofNat 51, .ofNat 50, .ofNat 51, .ofNat 51, .ofNat 51, .ofNat 52, .ofNat 51, .ofNat 53, .ofNat 51, .ofNat 54, .ofNat 51, .ofNat 55, .ofNat 51, .ofNat 56, .ofNat 51, .ofNat 57, .ofNat 52, .ofNat 48, .ofNat 52, .ofNat 49, .ofNat 52, .ofNat 50, .ofNat 52, .ofNat 51, .ofNat 52, .ofNat 52, .ofNat 52, .ofNat 53, .ofNat 52, .ofNat 54, .ofNat 52, .ofNat 55, .ofNat 52, .ofNat 56, .ofNat 52, .ofNat 57, .ofNat 53, .ofNat 48, .ofNat 53, .ofNat 49, .ofNat 53, .ofNat 50, .ofNat 53, .ofNat 51, .ofNat 53, .ofNat 52, .ofNat 53, .ofNat 53, .ofNat 53, .ofNat 54, .ofNat 53, .ofNat 55, .ofNat 53, .ofNat 56, .ofNat 53, .ofNat 57, .ofNat 54, .ofNat 48, .ofNat 54, .ofNat 49, .ofNat 54, .ofNat 50, .ofNat 54, .ofNat 51, .ofNat 54, .ofNat 52, .ofNat 54, .ofNat 53, .ofNat 54, .ofNat 54, .ofNat 54, .ofNat 55, .ofNat 54, .ofNat 56, .ofNat 54, .ofNat 57, .ofNat 55, .ofNat 48, .ofNat 55, .ofNat 49, .ofNat 55, .ofNat 50, .ofNat 55, .ofNat 51, .ofNat 55, .ofNat 52, .ofNat 55, .ofNat 53, .ofNat 55, .ofNat 54, .ofNat 55, .ofNat 55, .ofNat 55, .ofNat 56, .ofNat 55, .ofNat 57, .ofNat 56, .ofNat 48, .ofNat 56, .ofNat 49, .ofNat 56, .ofNat 50, .ofNat 56, .ofNat 51, .ofNat 56, .ofNat 52, .ofNat 56, .ofNat 53, .ofNat 56, .ofNat 54, .ofNat 56, .ofNat 55, .ofNat 56, .ofNat 56, .ofNat 56, .ofNat 57, .ofNat 57, .ofNat 48, .ofNat 57, .ofNat 49, .ofNat 57, .ofNat 50, .ofNat 57, .ofNat 51, .ofNat 57, .ofNat 52, .ofNat 57, .ofNat 53, .ofNat 57, .ofNat 54, .ofNat 57, .ofNat 55, .ofNat 57, .ofNat 56, .ofNat 57, .ofNat 57])) (T 130)),
  m 132 14,
  a 133 (.idxStr (.k (.str [.ofNat 48, .ofNat 48, .ofNat 48, .ofNat 49, .ofNat 48, .ofNat 50, .ofNat 48, .ofNat 51, .ofNat 48, .ofNat 52, .ofNat 48, .ofNat 53, .ofNat 48, .ofNat 54, .ofNat 48, .ofNat 55, .ofNat 48, .ofNat 56, .ofNat 48, .ofNat 57, .ofNat 49, .ofNat 48, .ofNat 49, .ofNat 49, .ofNat 49, .ofNat 50, .ofNat 49, .ofNat 51, .ofNat 49, .ofNat 52, .ofNat 49, .ofNat 53, .ofNat 49, .ofNat 54, .ofNat 49, .ofNat 55, .ofNat 49, .ofNat 56, .ofNat 49, .ofNat 57, .ofNat 50, .ofNat 48, .ofNat 50, .ofNat 49, .ofNat 50, .ofNat 50, .ofNat 50, .ofNat 51, .ofNat 50, .ofNat 52, .ofNat 50, .ofNat 53, .ofNat 50, .ofNat 54, .ofNat 50, .ofNat 55, .ofNat 50, .ofNat 56, .ofNat 50, .ofNat 57, .ofNat 51, .ofNat 48, .ofNat 51, .ofNat 49, .ofNat 51, .ofNat 50, .ofNat 51, .ofNat 51, .ofNat 51, .ofNat 52, .ofNat 51, .ofNat 53, .ofNat 51, .ofNat 54, .ofNat 51, .ofNat 55, .ofNat 51, .ofNat 56, .ofNat 51, .ofNat 57, .ofNat 52, .ofNat 48, .ofNat 52, .ofNat 49, .ofNat 52, .ofNat 50, .ofNat 52, .ofNat 51, .ofNat 52, .ofNat 52, .ofNat 52, .ofNat 53, .ofNat 52, .ofNat 54, .ofNat 52, .ofNat 55, .ofNat 52, .ofNat 56, .ofNat 52, .ofNat 57, .ofNat 53, .ofNat 48, .ofNat 53, .ofNat 49, .ofNat 53, .ofNat 50, .ofNat 53, .ofNat 51, .ofNat 53, .ofNat 52, .ofNat 53, .ofNat 53, .ofNat 53, .ofNat 54, .ofNat 53, .ofNat 55, .ofNat 53, .ofNat 56, .ofNat 53, .ofNat 57, .ofNat 54, .ofNat 48, .ofNat 54, .ofNat 49, .ofNat 54, .ofNat 50, .ofNat 54, .ofNat 51, .ofNat 54, .ofNat 52, .ofNat 54, .ofNat 53, .ofNat 54, .ofNat 54, .ofNat 54, .ofNat 55, .ofNat 54, .ofNat 56, .ofNat 54, .ofNat 57, .ofNat 55, .ofNat 48, .ofNat 55, .ofNat 49, .ofNat 55, .ofNat 50, .ofNat 55, .ofNat 51, .ofNat 55, .ofNat 52, .ofNat 55, .ofNat 53, .ofNat 55, .ofNat 54, .ofNat 55, .ofNat 55, .ofNat 55, .ofNat 56, .ofNat 55, .ofNat 57, .ofNat 56, .ofNat 48, .ofNat 56, .ofNat 49, .ofNat 56, .ofNat 50, .ofNat 56, .ofNat 51, .ofNat 56, .ofNat 52, .ofNat 56, .ofNat 53, .ofNat 56, .ofNat 54, .ofNat 56, .ofNat 55, .ofNat 56, .ofNat 56, .ofNat 56, .ofNat 57, .ofNat 57, .ofNat 48, .ofNat 57, .ofNat 49, .ofNat 57, .ofNat 50, .ofNat 57, .ofNat 51, .ofNat 57, .ofNat 52, .ofNat 57, .ofNat 53, .ofNat 57, .ofNat 54, .ofNat 57, .ofNat 55, .ofNat 57, .ofNat 56, .ofNat 57, .ofNat 57])) (T 132)),
  a 134 (.idxSl 1 (T 123) (T 125)),
  n (.store 1 (T 134) (T 131)),
  a 135 (.idxSl 1 (T 126) (T 128)),
  n (.store 1 (T 135) (T 133))] [[], [], [1], [], [], [4], [], [6], [7, 6], [], [9], [0, 2, 0, 1, 2, 6, 7, 8, 1, 1, 6, 7, 6], [11, 8, 0, 1, 2, 6, 7, 8, 0, 2, 0, 1, 2, 6, 7, 8, 1, 1, 6, 7, 6, 7, 6, 1, 6, 7, 6], [3, 5, 0, 1, 2, 3, 4, 5, 6, 7, 8, 9, 10, 11, 12, 4, 1, 4, 6, 7, 6, 9, 0, 2, 0, 1, 2, 6, 7, 8, 1, 1, 6, 7, 6, 11, 8, 0, 1, 2, 6, 7, 8, 0, 2, 0, 1, 2, 6, 7, 8, 1, 1, 6, 7, 6, 7, 6, 1, 6, 7, 6], [13, 10, 12, 0, 1, 2, 3, 4, 5, 6, 7, 8, 9, 10, 11, 12, 3, 5, 0, 1, 2, 3, 4, 5, 6, 7, 8, 9, 10, 11, 12, 4, 1, 4, 6, 7, 6, 9, 0, 2, 0, 1, 2, 6, 7, 8, 1, 1, 6, 7, 6, 11, 8, 0, 1, 2, 6, 7, 8, 0, 2, 0, 1, 2, 6, 7, 8, 1, 1, 6, 7, 6, 7, 6, 1, 6, 7, 6, 9, 11, 8, 0, 1, 2, 6, 7, 8, 0, 2, 0, 1, 2, 6, 7, 8, 1, 1, 6, 7, 6, 7, 6, 1, 6, 7, 6, 1, 4, 6, 7, 6, 9, 0, 2, 0, 1, 2, 6, 7, 8, 1, 1, 6, 7, 6, 11, 8, 0, 1, 2, 6, 7, 8, 0, 2, 0, 1, 2, 6, 7, 8, 1, 1, 6, 7, 6, 7, 6, 1, 6, 7, 6]])
 (.live [0, 4, 12] (.ops [m 136 4,
  a 137 (.bin .sub (T 136) (.k (I 4))),
  m 4 137])))))))))
 .skip))
 (.live [0, 4, 12] (.seq (.seq (.ops [m 138 4,
  a 139 (.bin .geq (T 138) (.k (I 2)))])
 (.cond (T 139) (.seq (.ops [m 140 12,
  a 141 (.bin .rem (T 140) (.k (.int .u32 (.ofNat 100)))),
  a 142 (.bin .mul (T 141) (.k (.int .u32 (.ofNat 2)))),
  m 16 142])
 (.seq (.ops [m 143 12,
  a 144 (.bin .quo (T 143) (.k (.int .u32 (.ofNat 100)))),
  m 12 144])
 (.seq (.dops [m 145 0,
  m 146 4,
  a 147 (.bin .sub (T 146) (.k (I 1))),
  m 148 0,
  m 149 4,
  a 150 (.bin .sub (T 149) (.k (I 2))),
  m 151 16,
  a 152 (.bin .add (T 151) (.k (.int .u32 (.ofNat 1)))),
  a 153 (.idxStr (.k (.str [.ofNat 48, .ofNat 48, .ofNat 48, .ofNat 49, .ofNat 48, .ofNat 50, .ofNat 48, .ofNat 51, .ofNat 48, .ofNat 52, .ofNat 48, .ofNat 53, .ofNat 48, .ofNat 54, .ofNat 48, .ofNat 55, .ofNat 48, .ofNat 56, .ofNat 48, .ofNat 57, .ofNat 49, .ofNat 48, .ofNat 49, .ofNat 49, .ofNat 49, .ofNat 50, .ofNat 49, .ofNat 51, .ofNat 49, .ofNat 52, .ofNat 49, .ofNat 53, .ofNat 49, .ofNat 54, .ofNat 49, .ofNat 55, .ofNat 49, .ofNat 56, .ofNat 49, .ofNat 57, .ofNat 50, .ofNat 48, .ofNat 50, .ofNat 49, .ofNat 50, .ofNat 50, .ofNat 50, .ofNat 51, .ofNat 50, .ofNat 52, .ofNat 50, .ofNat 53, .ofNat 50, .ofNat 54, .ofNat 50, .ofNat 55, .ofNat 50, .ofNat 56, .ofNat 50, .ofNat 57, .ofNat 51, .ofNat 48, .ofNat 51, .ofNat 49, .ofNat 51, .ofNat 50, .ofNat 51, .ofNat 51, .ofNat 51, .ofNat 52, .ofNat 51, .ofNat 53, .ofNat 51, .ofNat 54, .ofNat 51, .ofNat 55, .ofNat 51, .ofNat 56, .ofNat 51, .ofNat 57, .ofNat 52, .ofNat 48, .ofNat 52, .ofNat 49, .ofNat 52, .ofNat 50, .ofNat 52, .ofNat 51, .ofNat 52, .ofNat 52, .ofNat 52, .ofNat 53, .ofNat 52, .ofNat 54, .ofNat 52, .ofNat 55, .ofNat 52, .ofNat 56, .ofNat 52, .ofNat 57, .ofNat 53, .ofNat 48, .ofNat 53, .ofNat 49, .ofNat 53, .ofNat 50, .ofNat 53, .ofNat 51, .ofNat 53, .ofNat 52, .ofNat 53, .ofNat 53, .ofNat 53, .ofNat 54, .ofNat 53, .ofNat 55, .ofNat 53, .ofNat 56, .ofNat 53, .ofNat 57, .ofNat 54, .ofNat 48, .ofNat 54, .ofNat 49, .ofNat 54, .ofNat 50, .ofNat 54, .ofNat 51, .ofNat 54, .ofNat 52, .ofNat 54, .ofNat 53, .ofNat 54, .ofNat 54, .ofNat 54, .ofNat 55, .ofNat 54, .ofNat 56, .ofNat 54, .ofNat 57, .ofNat 55, .ofNat 48, .ofNat 55, .ofNat 49, .ofNat 55, .ofNat 50, .ofNat 55, .ofNat 51, .ofNat 55, .ofNat 52, .ofNat 55, .ofNat 53, .ofNat 55, .ofNat 54, .ofNat 55, .ofNat 55, .ofNat 55, .ofNat 56, .ofNat 55, .ofNat 57, .ofNat 56, .ofNat 48, .ofNat 56, .ofNat 49, .ofNat 56, .ofNat 50, .ofNat 56, .ofNat 51, .ofNat 56, .ofNat 52, .ofNat 56, .ofNat 53, .ofNat 56, .ofNat 54, .ofNat 56, .ofNat 55, .ofNat 56, .ofNat 56, .ofNat 56, .ofNat 57, .ofNat 57, .ofNat 48, .ofNat 57, .ofNat 49, .ofNat 57, .ofNat 50, .ofNat 57, .ofNat 51, .ofNat 57, .ofNat 52, .ofNat 57, .ofNat 53, .ofNat 57, .ofNat 54, .ofNat 57, .ofNat 55, .ofNat 57, .ofNat 56, .ofNat 57, .ofNat 57])) (T 152)),
  m 154 16,
  a 155 (.idxStr (.k (.str [.ofNat 48, .ofNat 48, .ofNat 48, .ofNat 49, .ofNat 48, .ofNat 50, .ofNat 48, .ofNat 51, .ofNat 48, .ofNat 52, .ofNat 48, .ofNat 53, .ofNat 48, .ofNat 54, .ofNat 48, .ofNat 55, .ofNat 48, .ofNat 56, .ofNat 48, .ofNat 57, .ofNat 49, .ofNat 48, .ofNat 49, .ofNat 49, .ofNat 49, .ofNat 50, .ofNat 49, .ofNat 51, .ofNat 49, .ofNat 52, .ofNat 49, .ofNat 53, .ofNat 49, .ofNat 54, .ofNat 49, .ofNat 55, .ofNat 49, .ofNat 56, .ofNat 49, .ofNat 57, .ofNat 50, .ofNat 48, .ofNat 50, .ofNat 49, .ofNat 50, .ofNat 50, .ofNat 50, .ofNat 51, .ofNat 50, .ofNat 52, .ofNat 50, .ofNat 53, .ofNat 50, .ofNat 54, .ofNat 50, .ofNat 55, .ofNat 50, .ofNat 56, .ofNat 50, .ofNat 57, .ofNat 51, .ofNat 48, .ofNat 51, .ofNat 49, .ofNat 51, .ofNat 50, .ofNat 51, .ofNat 51, .ofNat 51, .ofNat 52, .ofNat 51, .ofNat 53, .ofNat 51, .ofNat 54, .ofNat 51, .ofNat 55, .ofNat 51, .ofNat 56, .ofNat 51, .ofNat 57, .ofNat 52, .ofNat 48, .ofNat 52, .ofNat 49, .ofNat 52, .ofNat 50, .ofNat 52, .ofNat 51, .ofNat 52, .ofNat 52, .ofNat 52, .ofNat 53, .ofNat 52, .ofNat 54, .ofNat 52, .ofNat 55, .ofNat 52, .ofNat 56, .ofNat 52, .ofNat 57, .ofNat 53, .ofNat 48, .ofNat 53, .ofNat 49, .ofNat 53, .ofNat 50, .ofNat 53, .ofNat 51, .ofNat 53, .ofNat 52, .ofNat 53, .ofNat 53, .ofNat 53, .ofNat 54, .ofNat 53, .ofNat 55, .ofNat 53, .ofNat 56, .ofNat 53, .ofNat 57, .ofNat 54, .ofNat 48, .ofNat 54, .ofNat 49, .ofNat 54, .ofNat 50, .ofNat 54, .ofNat 51, .ofNat 54, .ofNat 52, .ofNat 54, .ofNat 53, .ofNat 54, .ofNat 54, .ofNat 54, .ofNat 55, .ofNat 54, .ofNat 56, .ofNat 54, .ofNat 57, .ofNat 55, .ofNat 48, .ofNat 55, .ofNat 49, .ofNat 55, .ofNat 50, .ofNat 55, .ofNat 51, .ofNat 55, .ofNat 52, .ofNat 55, .ofNat 53, .ofNat 55, .ofNat 54, .ofNat 55, .ofNat 55, .ofNat 55, .ofNat 56, .ofNat 55, .ofNat 57, .ofNat 56, .ofNat 48, .ofNat 56, .ofNat 49, .ofNat 56, .ofNat 50, .ofNat 56, .ofNat 51, .ofNat 56, .ofNat 52, .ofNat 56, .ofNat 53, .ofNat 56, .ofNat 54, .ofNat 56, .ofNat 55, .ofNat 56, .ofNat 56, .ofNat 56, .ofNat 57, .ofNat 57, .ofNat 48, .ofNat 57, .ofNat 49, .ofNat 57, .ofNat 50, .ofNat 57, .ofNat 51, .ofNat 57, .ofNat 52, .ofNat 57, .ofNat 53, .ofNat 57, .ofNat 54, .ofNat 57, .ofNat 55, .ofNat 57, .ofNat 56, .ofNat 57, .ofNat 57])) (T 154)),
  a 156 (.idxSl 1 (T 145) (T 147)),
  n (.store 1 (T 156) (T 153)),
  a 157 (.idxSl 1 (T 148) (T 150)),
  n (.store 1 (T 157) (T 155))] [[], [], [1], [], [], [4], [], [6], [7, 6], [], [9], [0, 2, 0, 1, 2, 6, 7, 8, 1, 1, 6, 7, 6], [11, 8, 0, 1, 2, 6, 7, 8, 0, 2, 0, 1, 2, 6, 7, 8, 1, 1, 6, 7, 6, 7, 6, 1, 6, 7, 6], [3, 5, 0, 1, 2, 3, 4, 5, 6, 7, 8, 9, 10, 11, 12, 4, 1, 4, 6, 7, 6, 9, 0, 2, 0, 1, 2, 6, 7, 8, 1, 1, 6, 7, 6, 11, 8, 0, 1, 2, 6, 7, 8, 0, 2, 0, 1, 2, 6, 7, 8, 1, 1, 6, 7, 6, 7, 6, 1, 6, 7, 6], [13, 10, 12, 0, 1, 2, 3, 4, 5, 6, 7, 8, 9, 10, 11, 12, 3, 5, 0, 1, 2, 3, 4, 5, 6, 7, 8, 9, 10, 11, 12, 4, 1, 4, 6, 7, 6, 9, 0, 2, 0, 1, 2, 6, 7, 8, 1, 1, 6, 7, 6, 11, 8, 0, 1, 2, 6, 7, 8, 0, 2, 0, 1, 2, 6, 7, 8, 1, 1, 6, 7, 6, 7, 6, 1, 6, 7, 6, 9, 11, 8, 0, 1, 2, 6, 7, 8, 0, 2, 0, 1, 2, 6, 7, 8, 1, 1, 6, 7, 6, 7, 6, 1, 6, 7, 6, 1, 4, 6, 7, 6, 9, 0, 2, 0, 1, 2, 6, 7, 8, 1, 1, 6, 7, 6, 11, 8, 0, 1, 2, 6, 7, 8, 0, 2, 0, 1, 2, 6, 7, 8, 1, 1, 6, 7, 6, 7, 6, 1, 6, 7, 6]])
 (.live [0, 4, 12] (.ops [m 158 4,
  a 159 (.bin .sub (T 158) (.k (I 2))),
  m 4 159])))))
 .skip))
 (.live [0, 4, 12] (.seq (.ops [m 160 4,
  a 161 (.bin .gtr (T 160) (.k (I 0)))])
 (.cond (T 161) (.ops [m 162 0,
  m 163 12,
  a 164 (.bin .add (.k (.int .u32 (.ofNat 48))) (T 163)),
  a 165 (.toInt .u8 (T 164)),
  a 166 (.idxSl 1 (T 162) (.k (I 0))),
  n (.store 1 (T 166) (T 165))])
 .skip))))))))))
def f165 : PFn := ⟨2, [], b165, false, true⟩
def b166 : PCode := (.seq (.ops [a 10 (.mov (.k (.sl true []))),
  a 11 (.mov (.k (.str [])))])
 (.seq (.seq (.ops [m 19 2,
  a 20 (.bin .lss (T 19) (.k (I 2))),
  m 21 20,
  g 22 (.mov (T 2)) 21 false,
  g 23 (.bin .eql (T 22) (.k (I 10))) 21 false,
  a 24 (.pick (T 21) (.k (.bool true)) (T 23)),
  m 25 24,
  g 26 (.mov (T 2)) 25 false,
  g 27 (.bin .gtr (T 26) (.k (I 36))) 25 false,
  a 28 (.pick (T 25) (.k (.bool true)) (T 27))])
 (.cond (T 28) (.ops [a 29 (.iface 9 (.k (.str [.ofNat 115, .ofNat 116, .ofNat 114, .ofNat 99, .ofNat 111, .ofNat 110, .ofNat 118, .ofNat 58, .ofNat 32, .ofNat 105, .ofNat 108, .ofNat 108, .ofNat 101, .ofNat 103, .ofNat 97, .ofNat 108, .ofNat 32, .ofNat 65, .ofNat 112, .ofNat 112, .ofNat 101, .ofNat 110, .ofNat 100, .ofNat 73, .ofNat 110, .ofNat 116, .ofNat 47, .ofNat 70, .ofNat 111, .ofNat 114, .ofNat 109, .ofNat 97, .ofNat 116, .ofNat 73, .ofNat 110, .ofNat 116, .ofNat 32, .ofNat 98, .ofNat 97, .ofNat 115, .ofNat 101]))),
  n (.nilCheck (.k .nilptr))])
 .skip))
 (.live [0, 1, 2, 3, 4, 10, 11] (.seq (.ops [a 12 (.alloc 259 [(.int .u8 (.ofNat 0)), (.int .u8 (.ofNat 0)), (.int .u8 (.ofNat 0)), (.int .u8 (.ofNat 0)), (.int .u8 (.ofNat 0)), (.int .u8 (.ofNat 0)), (.int .u8 (.ofNat 0)), (.int .u8 (.ofNat 0)), (.int .u8 (.ofNat 0)), (.int .u8 (.ofNat 0)), (.int .u8 (.ofNat 0)), (.int .u8 (.ofNat 0)), (.int .u8 (.ofNat 0)), (.int .u8 (.ofNat 0)), (.int .u8 (.ofNat 0)), (.int .u8 (.ofNat 0)), (.int .u8 (.ofNat 0)), (.int .u8 (.ofNat 0)), (.int .u8 (.ofNat 0)), (.int .u8 (.ofNat 0)), (.int .u8 (.ofNat 0)), (.int .u8 (.ofNat 0)), (.int .u8 (.ofNat 0)), (.int .u8 (.ofNat 0)), (.int .u8 (.ofNat 0)), (.int .u8 (.ofNat 0)), (.int .u8 (.ofNat 0)), (.int .u8 (.ofNat 0)), (.int .u8 (.ofNat 0)), (.int .u8 (.ofNat 0)), (.int .u8 (.ofNat 0)), (.int .u8 (.ofNat 0)), (.int .u8 (.ofNat 0)), (.int .u8 (.ofNat 0)), (.int .u8 (.ofNat 0)), (.int .u8 (.ofNat 0)), (.int .u8 (.ofNat 0)), (.int .u8 (.ofNat 0)), (.int .u8 (.ofNat 0)), (.int .u8 (.ofNat 0)), (.int .u8 (.ofNat 0)), (.int .u8 (.ofNat 0)), (.int .u8 (.ofNat 0)), (.int .u8 (.ofNat 0)), (.int .u8 (.ofNat 0)), (.int .u8 (.ofNat 0)), (.int .u8 (.ofNat 0)), (.int .u8 (.ofNat 0)), (.int .u8 (.ofNat 0)), (.int .u8 (.ofNat 0)), (.int .u8 (.ofNat 0)), (.int .u8 (.ofNat 0)), (.int .u8 (.ofNat 0)), (.int .u8 (.ofNat 0)), (.int .u8 (.ofNat 0)), (.int .u8 (.ofNat 0)), (.int .u8 (.ofNat 0)), (.int .u8 (.ofNat 0)), (.int .u8 (.ofNat 0)), (.int .u8 (.ofNat 0)), (.int .u8 (.ofNat 0)), (.int .u8 (.ofNat 0)), (.int .u8 (.ofNat 0)), (.int .u8 (.ofNat 0)), (.int .u8 (.ofNat 0))])])
 (.seq (.ops [a 13 (.mov (.k (I 65)))])
 (.seq (.seq (.ops [m 30 3])
 (.cond (T 30) (.ops [m 31 1,
  a 32 (.neg (T 31)),
  m 1 32])
 .skip))
 (.seq (.seq (.ops [m 33 2,
  a 34 (.call 175 [(T 33)])])
 (.cond (T 34) (.seq (.ops [m 35 2,
  a 36 (.toInt .u64 (T 35)),
  a 37 (.call 176 [(T 36)]),
  a 38 (.toInt .u64 (T 37)),
  m 14 38])
 (.seq (.ops [m 39 2,
  a 40 (.toInt .u64 (T 39)),
  m 15 40])
 (.seq (.ops [m 41 2,
  a 42 (.toInt .u64 (T 41)),
  a 43 (.bin .sub (T 42) (.k (.int .u64 (.ofNat 1)))),
  m 16 43])
 (.seq (.block 0 (.loop (some [0, 1, 3, 4, 10, 11, 12, 13, 14, 15, 16]) (.seq (.seq (.ops [m 44 1,
  m 45 15,
  a 46 (.bin .geq (T 44) (T 45))])
 (.cond (T 46) .skip
 (.exit 0)))
 (.block 1 (.seq (.ops [m 47 13,
  a 48 (.bin .sub (T 47) (.k (I 1))),
  m 13 48])
 (.seq (.ops [m 49 13,
  m 50 1,
  m 51 16,
  a 52 (.bin .and (T 50) (T 51)),
  a 53 (.idxStr (.k (.str [.ofNat 48, .ofNat 49, .ofNat 50, .ofNat 51, .ofNat 52, .ofNat 53, .ofNat 54, .ofNat 55, .ofNat 56, .ofNat 57, .ofNat 97, .ofNat 98, .ofNat 99, .ofNat 100, .ofNat 101, .ofNat 102, .ofNat 103, .ofNat 104, .ofNat 105, .ofNat 106, .ofNat 107, .ofNat 108, .ofNat 109, .ofNat 110, .ofNat 111, .ofNat 112, .ofNat 113, .ofNat 114, .ofNat 115, .ofNat 116, .ofNat 117, .ofNat 118, .ofNat 119, .ofNat 120, .ofNat 121, .ofNat 122])) (T 52)),
  a 54 (.idxArr 65 1 (T 12) (T 49)),
  n (.store 1 (T 54) (T 53))])
 (.live [0, 1, 3, 4, 10, 11, 12, 13, 14, 15, 16] (.ops [m 55 1,
  m 56 14,
  a 57 (.bin .shr (T 55) (T 56)),
  m 1 57]))))))))
 (.live [0, 1, 3, 4, 10, 11, 12, 13] (.seq (.ops [m 58 13,
  a 59 (.bin .sub (T 58) (.k (I 1))),
  m 13 59])
 (.ops [m 60 13,
  m 61 1,
  a 62 (.idxStr (.k (.str [.ofNat 48, .ofNat 49, .ofNat 50, .ofNat 51, .ofNat 52, .ofNat 53, .ofNat 54, .ofNat 55, .ofNat 56, .ofNat 57, .ofNat 97, .ofNat 98, .ofNat 99, .ofNat 100, .ofNat 101, .ofNat 102, .ofNat 103, .ofNat 104, .ofNat 105, .ofNat 106, .ofNat 107, .ofNat 108, .ofNat 109, .ofNat 110, .ofNat 111, .ofNat 112, .ofNat 113, .ofNat 114, .ofNat 115, .ofNat 116, .ofNat 117, .ofNat 118, .ofNat 119, .ofNat 120, .ofNat 121, .ofNat 122])) (T 61)),
  a 63 (.idxArr 65 1 (T 12) (T 60)),
  n (.store 1 (T 63) (T 62))])))))))
 (.seq (.ops [m 64 2,
  a 65 (.toInt .u64 (T 64)),
  m 17 65])
 (.seq (.block 2 (.loop (some [0, 1, 3, 4, 10, 11, 12, 13, 17]) (.seq (.seq (.ops [m 66 1,
  m 67 17,
  a 68 (.bin .geq (T 66) (T 67))])
 (.cond (T 68) .skip
 (.exit 2)))
 (.block 3 (.seq (.ops [m 69 13,
  a 70 (.bin .sub (T 69) (.k (I 1))),
  m 13 70])
 (.seq (.ops [m 71 1,
  m 72 17,
  a 73 (.bin .quo (T 71) (T 72)),
  m 18 73])
 (.seq (.ops [m 74 13,
  m 75 1,
  m 76 18,
  m 77 17,
  a 78 (.bin .mul (T 76) (T 77)),
  a 79 (.bin .sub (T 75) (T 78)),
  a 80 (.idxStr (.k (.str [.ofNat 48, .ofNat 49, .ofNat 50, .ofNat 51, .ofNat 52, .ofNat 53, .ofNat 54, .ofNat 55, .ofNat 56, .ofNat 57, .ofNat 97, .ofNat 98, .ofNat 99, .ofNat 100, .ofNat 101, .ofNat 102, .ofNat 103, .ofNat 104, .ofNat 105, .ofNat 106, .ofNat 107, .ofNat 108, .ofNat 109, .ofNat 110, .ofNat 111, .ofNat 112, .ofNat 113, .ofNat 114, .ofNat 115, .ofNat 116, .ofNat 117, .ofNat 118, .ofNat 119, .ofNat 120, .ofNat 121, .ofNat 122])) (T 79)),
  a 81 (.idxArr 65 1 (T 12) (T 74)),
  n (.store 1 (T 81) (T 80))])
 (.ops [m 82 18,
  m 1 82]))))))))
 (.live [0, 1, 3, 4, 10, 11, 12, 13] (.seq (.ops [m 83 13,
  a 84 (.bin .sub (T 83) (.k (I 1))),
  m 13 84])
 (.ops [m 85 13,
  m 86 1,
  a 87 (.idxStr (.k (.str [.ofNat 48, .ofNat 49, .ofNat 50, .ofNat 51, .ofNat 52, .ofNat 53, .ofNat 54, .ofNat 55, .ofNat 56, .ofNat 57, .ofNat 97, .ofNat 98, .ofNat 99, .ofNat 100, .ofNat 101, .ofNat 102, .ofNat 103, .ofNat 104, .ofNat 105, .ofNat 106, .ofNat 107, .ofNat 108, .ofNat 109, .ofNat 110, .ofNat 111, .ofNat 112, .ofNat 113, .ofNat 114, .ofNat 115, .ofNat 116, .ofNat 117, .ofNat 118, .ofNat 119, .ofNat 120, .ofNat 121, .ofNat 122])) (T 86)),
  a 88 (.idxArr 65 1 (T 12) (T 85)),
  n (.store 1 (T 88) (T 87))])))))))
 (.live [0, 3, 4, 10, 11, 12, 13] (.seq (.seq (.ops [m 89 3])
 (.cond (T 89) (.seq (.ops [m 90 13,
  a 91 (.bin .sub (T 90) (.k (I 1))),
  m 13 91])
 (.ops [m 92 13,
  a 93 (.idxArr 65 1 (T 12) (T 92)),
  n (.store 1 (T 93) (.k (.int .u8 (.ofNat 45))))]))
 .skip))
 (.live [0, 4, 10, 11, 12, 13] (.seq (.seq (.ops [m 94 4])
 (.cond (T 94) (.seq (.ops [m 95 0,
  m 96 13,
  a 97 (.slArr 65 1 (T 12) (some (T 96)) none),
  a 98 (.app false 5 1 1 (T 95) (T 97)),
  m 10 98])
 .ret)
 .skip))
 (.live [10, 12, 13] (.seq (.ops [m 99 13,
  a 100 (.slArr 65 1 (T 12) (some (T 99)) none),
  a 101 (.bytesStr (T 100)),
  m 11 101])
 .ret)))))))))))))
def f166 : PFn := ⟨5, [.t 10, .t 11], b166, false, true⟩
def b169 : PCode := (.seq (.ops [a 2 (.mov (.k (.bool false)))])
 (.seq (.seq (.ops [m 4 0,
  a 5 (.lenStr (T 4)),
  a 6 (.bin .lss (T 5) (.k (I 1))),
  m 7 6,
  g 8 (.mov (T 0)) 7 false,
  g 9 (.lenStr (T 8)) 7 false,
  g 10 (.bin .gtr (T 9) (.k (I 60))) 7 false,
  a 11 (.pick (T 7) (.k (.bool true)) (T 10)),
  m 12 11,
  g 13 (.mov (T 0)) 12 false,
  g 14 (.idxStr (T 13) (.k (I 0))) 12 false,
  g 15 (.bin .leq (.k (.int .u8 (.ofNat 48))) (T 14)) 12 false,
  g 16 (.mov (T 15)) 12 false,
  g 17 (.mov (T 0)) 16 true,
  g 18 (.idxStr (T 17) (.k (I 0))) 16 true,
  g 19 (.bin .leq (T 18) (.k (.int .u8 (.ofNat 57)))) 16 true,
  g 20 (.pick (T 16) (T 19) (.k (.bool false))) 12 false,
  a 21 (.pick (T 12) (.k (.bool true)) (T 20))])
 (.cond (T 21) (.seq (.ops [a 2 (.mov (.k (.bool false)))])
 .ret)
 .skip))
 (.live [0] (.seq (.seq (.ops [a 3 (.mov (.k (I 0)))])
 (.block 0 (.loop (some [0, 3]) (.seq (.seq (.ops [m 22 3,
  m 23 0,
  a 24 (.lenStr (T 23)),
  a 25 (.bin .lss (T 22) (T 24))])
 (.cond (T 25) .skip
 (.exit 0)))
 (.seq (.block 1 (.seq (.ops [m 28 0,
  m 29 3,
  a 30 (.idxStr (T 28) (T 29)),
  a 31 (.call 177 [(T 30)]),
  a 32 (.not (T 31))])
 (.cond (T 32) (.seq (.ops [a 2 (.mov (.k (.bool false)))])
 .ret)
 .skip)))
 (.live [0, 3] (.ops [m 26 3,
  a 27 (.bin .add (T 26) (.k (I 1))),
  m 3 27])))))))
 (.seq (.ops [a 2 (.mov (.k (.bool true)))])
 .ret)))))
def f169 : PFn := ⟨1, [.t 2], b169, false, true⟩
def b170 : PCode := (.seq (.ops [a 2 (.mov (.k .nilptr)),
  a 3 (.mov (.k (.bool false)))])
 (.seq (.seq (.ops [m 7 0,
  a 8 (.lenStr (T 7)),
  a 9 (.bin .gtr (T 8) (.k (I 200)))])
 (.cond (T 9) (.seq (.ops [a 2 (.mov (.k .nilptr)),
  a 3 (.mov (.k (.bool false)))])
 .ret)
 .skip))
 (.seq (.ops [m 10 0,
  a 11 (.build [(.str []), (I 0)] [(0, 1, (T 10))]),
  a 12 (.box 264 (T 11)),
  m 4 12])
 (.seq (.ops [m 14 4,
  a 15 (.call 178 [(T 14)]),
  m 13 15,
  a 16 (.ext (T 13) 0),
  a 17 (.ext (T 13) 1),
  m 5 16,
  m 6 17])
 (.live [0, 4, 5, 6] (.seq (.seq (.ops [m 18 6,
  a 19 (.not (T 18)),
  m 20 19,
  g 21 (.mov (T 4)) 20 false,
  g 22 (.nilCheck (T 21)) 20 false,
  g 23 (.fldA 1 (T 22)) 20 false,
  g 24 (.load false 1 (T 23)) 20 false,
  g 25 (.mov (T 0)) 20 false,
  g 26 (.lenStr (T 25)) 20 false,
  g 27 (.bin .neq (T 24) (T 26)) 20 false,
  a 28 (.pick (T 20) (.k (.bool true)) (T 27))])
 (.cond (T 28) (.seq (.ops [a 2 (.mov (.k .nilptr)),
  a 3 (.mov (.k (.bool false)))])
 .ret)
 .skip))
 (.live [5] (.seq (.ops [m 29 5,
  m 2 29,
  a 3 (.mov (.k (.bool true)))])
 .ret))))))))
def f170 : PFn := ⟨1, [.t 2, .t 3], b170, false, true⟩
def b171 : PCode := (.seq (.ops [a 4 (.mov (.k (.str []))),
  a 5 (.mov (.k (.bool false)))])
 (.seq (.ops [m 6 0,
  m 7 1,
  a 8 (.call 179 [(T 6), (T 7)]),
  a 9 (.ext (T 8) 0),
  a 10 (.ext (T 8) 1),
  m 4 9,
  m 5 10])
 .ret))
def f171 : PFn := ⟨2, [.t 4, .t 5], b171, false, true⟩
def b172 : PCode := (.seq (.ops [a 2 (.mov (.k (I 0)))])
 (.seq (.ops [m 3 0,
  a 4 (.bin .mul (T 3) (.k (I 78913))),
  a 5 (.bin .shr (T 4) (.k (.int .u64 (.ofNat 18)))),
  m 2 5])
 .ret))
def f172 : PFn := ⟨1, [.t 2], b172, false, true⟩
def b173 : PCode := (.seq (.ops [a 2 (.mov (.k (I 0)))])
 (.seq (.seq (.ops [m 3 0,
  a 4 (.bin .geq (T 3) (.k (.int .u64 (.ofNat 4294967296))))])
 (.cond (T 4) (.seq (.ops [m 5 0,
  a 6 (.bin .shr (T 5) (.k (.int .u64 (.ofNat 32)))),
  m 0 6])
 (.ops [a 2 (.mov (.k (I 32)))]))
 .skip))
 (.live [0, 2] (.seq (.seq (.ops [m 7 0,
  a 8 (.bin .geq (T 7) (.k (.int .u64 (.ofNat 65536))))])
 (.cond (T 8) (.seq (.ops [m 9 0,
  a 10 (.bin .shr (T 9) (.k (.int .u64 (.ofNat 16)))),
  m 0 10])
 (.ops [m 11 2,
  a 12 (.bin .add (T 11) (.k (I 16))),
  m 2 12]))
 .skip))
 (.live [0, 2] (.seq (.seq (.ops [m 13 0,
  a 14 (.bin .geq (T 13) (.k (.int .u64 (.ofNat 256))))])
 (.cond (T 14) (.seq (.ops [m 15 0,
  a 16 (.bin .shr (T 15) (.k (.int .u64 (.ofNat 8)))),
  m 0 16])
 (.ops [m 17 2,
  a 18 (.bin .add (T 17) (.k (I 8))),
  m 2 18]))
 .skip))
 (.live [0, 2] (.seq (.ops [m 19 2,
  m 20 0,
  a 21 (.toInt .u8 (T 20)),
  a 22 (.idxStr (.k (.str [.ofNat 0, .ofNat 1, .ofNat 2, .ofNat 2, .ofNat 3, .ofNat 3, .ofNat 3, .ofNat 3, .ofNat 4, .ofNat 4, .ofNat 4, .ofNat 4, .ofNat 4, .ofNat 4, .ofNat 4, .ofNat 4, .ofNat 5, .ofNat 5, .ofNat 5, .ofNat 5, .ofNat 5, .ofNat 5, .ofNat 5, .ofNat 5, .ofNat 5, .ofNat 5, .ofNat 5, .ofNat 5, .ofNat 5, .ofNat 5, .ofNat 5, .ofNat 5, .ofNat 6, .ofNat 6, .ofNat 6, .ofNat 6, .ofNat 6, .ofNat 6, .ofNat 6, .ofNat 6, .ofNat 6, .ofNat 6, .ofNat 6, .ofNat 6, .ofNat 6, .ofNat 6, .ofNat 6, .ofNat 6, .ofNat 6, .ofNat 6, .ofNat 6, .ofNat 6, .ofNat 6, .ofNat 6, .ofNat 6, .ofNat 6, .ofNat 6, .ofNat 6, .ofNat 6, .ofNat 6, .ofNat 6, .ofNat 6, .ofNat 6, .ofNat 6, .ofNat 7, .ofNat 7, .ofNat 7, .ofNat 7, .ofNat 7, .ofNat 7, .ofNat 7, .ofNat 7, .ofNat 7, .ofNat 7, .ofNat 7, .ofNat 7, .ofNat 7, .ofNat 7, .ofNat 7, .ofNat 7, .ofNat 7, .ofNat 7, .ofNat 7, .ofNat 7, .ofNat 7, .ofNat 7, .ofNat 7, .ofNat 7, .ofNat 7, .ofNat 7, .ofNat 7, .ofNat 7, .ofNat 7, .ofNat 7, .ofNat 7, .ofNat 7, .ofNat 7, .ofNat 7, .ofNat 7, .ofNat 7, .ofNat 7, .ofNat 7, .ofNat 7, .ofNat 7, .ofNat 7, .ofNat 7, .ofNat 7, .ofNat 7, .ofNat 7, .ofNat 7, .ofNat 7, .ofNat 7, .ofNat 7, .ofNat 7, .ofNat 7, .ofNat 7, .ofNat 7, .ofNat 7, .ofNat 7, .ofNat 7, .ofNat 7, .ofNat 7, .ofNat 7, .ofNat 7, .ofNat 7, .ofNat 7, .ofNat 7, .ofNat 7, .ofNat 8, .ofNat 8, .ofNat 8, .ofNat 8, .ofNat 8, .ofNat 8, .ofNat 8, .ofNat 8, .ofNat 8, .ofNat 8, .ofNat 8, .ofNat 8, .ofNat 8, .ofNat 8, .ofNat 8, .ofNat 8, .ofNat 8, .ofNat 8, .ofNat 8, .ofNat 8, .ofNat 8, .ofNat 8, .ofNat 8, .ofNat 8, .ofNat 8, .ofNat 8, .ofNat 8, .ofNat 8, .ofNat 8, .ofNat 8, .ofNat 8, .ofNat 8, .ofNat 8, .ofNat 8, .ofNat 8, .ofNat 8, .ofNat 8, .ofNat 8, .ofNat 8, .ofNat 8, .ofNat 8, .ofNat 8, .ofNat 8, .ofNat 8, .ofNat 8, .ofNat 8, .ofNat 8, .ofNat 8, .ofNat 8, .ofNat 8, .ofNat 8, .ofNat 8, .ofNat 8, .ofNat 8, .ofNat 8, .ofNat 8, .ofNat 8, .ofNat 8, .ofNat 8, .ofNat 8, .ofNat 8, .ofNat 8, .ofNat 8, .ofNat 8, .ofNat 8, .ofNat 8, .ofNat 8, .ofNat 8, .ofNat 8, .ofNat 8, .ofNat 8, .ofNat 8, .ofNat 8, .ofNat 8, .ofNat 8, .ofNat 8, .ofNat 8, .ofNat 8, .ofNat 8, .ofNat 8, .ofNat 8, .ofNat 8, .ofNat 8, .ofNat 8, .ofNat 8, .ofNat 8, .ofNat 8, .ofNat 8, .ofNat 8, .ofNat 8, .ofNat 8, .ofNat 8, .ofNat 8, .ofNat 8, .ofNat 8, .ofNat 8, .ofNat 8, .ofNat 8, .ofNat 8, .ofNat 8, .ofNat 8, .ofNat 8, .ofNat 8, .ofNat 8, .ofNat 8, .ofNat 8, .ofNat 8, .ofNat 8, .ofNat 8, .ofNat 8, .ofNat 8, .ofNat 8, .ofNat 8, .ofNat 8, .ofNat 8, .ofNat 8, .ofNat 8, .ofNat 8, .ofNat 8, .ofNat 8, .ofNat 8, .ofNat 8, .ofNat 8, .ofNat 8, .ofNat 8, .ofNat 8, .ofNat 8, .ofNat 8])) (T 21)),
  a 23 (.toInt .i64 (T 22)),
  a 24 (.bin .add (T 19) (T 23)),
  m 2 24])
 .ret))))))))
def f173 : PFn := ⟨1, [.t 2], b173, false, true⟩
def b174 : PCode := (.seq (.ops [a 2 (.mov (.k (I 0)))])
 (.seq (.seq (.ops [m 3 0])
 (.cond (T 3) (.seq (.ops [a 2 (.mov (.k (I 1)))])
 .ret)
 .skip))
 (.seq (.ops [a 2 (.mov (.k (I 0)))])
 .ret)))
def f174 : PFn := ⟨1, [.t 2], b174, false, true⟩
def b175 : PCode := (.seq (.ops [a 2 (.mov (.k (.bool false)))])
 (.seq (.ops [m 3 0,
  m 4 0,
  a 5 (.bin .sub (T 4) (.k (I 1))),
  a 6 (.bin .and (T 3) (T 5)),
  a 7 (.bin .eql (T 6) (.k (I 0))),
  m 2 7])
 .ret))
def f175 : PFn := ⟨1, [.t 2], b175, false, true⟩
def b176 : PCode := (.seq (.ops [a 2 (.mov (.k (I 0)))])
 (.seq (.cond (.k (.bool false)) (.seq (.ops [m 3 0,
  a 4 (.toInt .u32 (T 3)),
  a 5 (.call 180 [(T 4)]),
  m 2 5])
 .ret)
 .skip)
 (.seq (.ops [m 6 0,
  a 7 (.call 181 [(T 6)]),
  m 2 7])
 .ret)))
def f176 : PFn := ⟨1, [.t 2], b176, false, true⟩
def b177 : PCode := (.seq (.ops [a 2 (.mov (.k (.bool false)))])
 (.seq (.ops [m 3 0,
  a 4 (.bin .leq (.k (.int .u8 (.ofNat 97))) (T 3)),
  m 5 4,
  g 6 (.mov (T 0)) 5 true,
  g 7 (.bin .leq (T 6) (.k (.int .u8 (.ofNat 122)))) 5 true,
  a 8 (.pick (T 5) (T 7) (.k (.bool false))),
  m 9 8,
  g 10 (.mov (T 0)) 9 false,
  g 11 (.bin .leq (.k (.int .u8 (.ofNat 65))) (T 10)) 9 false,
  g 12 (.mov (T 11)) 9 false,
  g 13 (.mov (T 0)) 12 true,
  g 14 (.bin .leq (T 13) (.k (.int .u8 (.ofNat 90)))) 12 true,
  g 15 (.pick (T 12) (T 14) (.k (.bool false))) 9 false,
  a 16 (.pick (T 9) (.k (.bool true)) (T 15)),
  m 17 16,
  g 18 (.mov (T 0)) 17 false,
  g 19 (.bin .leq (.k (.int .u8 (.ofNat 48))) (T 18)) 17 false,
  g 20 (.mov (T 19)) 17 false,
  g 21 (.mov (T 0)) 20 true,
  g 22 (.bin .leq (T 21) (.k (.int .u8 (.ofNat 57)))) 20 true,
  g 23 (.pick (T 20) (T 22) (.k (.bool false))) 17 false,
  a 24 (.pick (T 17) (.k (.bool true)) (T 23)),
  m 25 24,
  g 26 (.mov (T 0)) 25 false,
  g 27 (.bin .eql (T 26) (.k (.int .u8 (.ofNat 95)))) 25 false,
  a 28 (.pick (T 25) (.k (.bool true)) (T 27)),
  m 2 28])
 .ret))
def f177 : PFn := ⟨1, [.t 2], b177, false, true⟩
def b178 : PCode := (.seq (.ops [a 2 (.mov (.k .nilptr)),
  a 3 (.mov (.k (.bool false)))])
 (.seq (.ops [a 7 (.build [(I 0), (.bool false), (.int .u8 (.ofNat 0)), .nilptr, (.sl true [])] [(0, 1, (.k (I 2)))]),
  a 8 (.box 270 (T 7)),
  m 4 8])
 (.seq (.block 0 (.loop (some [0, 4]) (.block 1 (.seq (.ops [m 10 0,
  a 11 (.call 182 [(T 10)]),
  m 9 11,
  a 12 (.ext (T 9) 0),
  a 13 (.ext (T 9) 1),
  m 5 12,
  m 6 13])
 (.live [0, 4, 5, 6] (.seq (.seq (.ops [m 14 6,
  a 15 (.not (T 14))])
 (.cond (T 15) (.seq (.ops [a 2 (.mov (.k .nilptr)),
  a 3 (.mov (.k (.bool false)))])
 .ret)
 .skip))
 (.seq (.ops [m 16 4,
  m 17 4,
  a 18 (.nilCheck (T 17)),
  q 19 4 18,
  l 20 19,
  m 21 5,
  a 22 (.buildSl false 1 1 .nilptr [(0, (T 21))]),
  a 23 (.app false 252 1 8 (T 20) (T 22)),
  a 24 (.nilCheck (T 16)),
  q 25 4 24,
  n (.store 1 (T 25) (T 23))])
 (.live [0, 4] (.seq (.ops [m 26 0,
  a 27 (.call 183 [(T 26), (.k (.int .u8 (.ofNat 124)))]),
  a 28 (.not (T 27))])
 (.cond (T 28) (.exit 0)
 .skip))))))))))
 (.live [4] (.seq (.seq (.ops [m 29 4,
  a 30 (.nilCheck (T 29)),
  q 31 4 30,
  l 32 31,
  a 33 (.lenSl (T 32)),
  a 34 (.bin .eql (T 33) (.k (I 1)))])
 (.live [4, 34] (.cond (T 34) (.seq (.ops [m 35 4,
  a 36 (.nilCheck (T 35)),
  q 37 4 36,
  l 38 37,
  a 39 (.idxSl 1 (T 38) (.k (I 0))),
  l 40 39,
  m 2 40,
  a 3 (.mov (.k (.bool true)))])
 .ret)
 .skip)))
 (.live [4] (.seq (.ops [m 41 4,
  m 2 41,
  a 3 (.mov (.k (.bool true)))])
 .ret)))))))
def f178 : PFn := ⟨1, [.t 2, .t 3], b178, false, true⟩
def b179 : PCode := (.seq (.ops [a 4 (.mov (.k (.str []))),
  a 5 (.mov (.k (.bool false)))])
 (.seq (.seq (.ops [m 6 0,
  m 7 1,
  a 8 (.call 184 [(T 6), (T 7)]),
  a 9 (.not (T 8))])
 (.cond (T 9) (.seq (.ops [m 10 0,
  m 4 10,
  a 5 (.mov (.k (.bool false)))])
 .ret)
 .skip))
 (.live [0, 1] (.seq (.ops [m 11 0,
  m 12 1,
  a 13 (.lenStr (T 12)),
  a 14 (.slStr (T 11) (some (T 13)) none),
  m 4 14,
  a 5 (.mov (.k (.bool true)))])
 .ret))))
def f179 : PFn := ⟨2, [.t 4, .t 5], b179, false, true⟩
def b180 : PCode := (.seq (.ops [a 2 (.mov (.k (I 0)))])
 (.seq (.seq (.ops [m 3 0,
  a 4 (.bin .eql (T 3) (.k (.int .u32 (.ofNat 0))))])
 (.cond (T 4) (.seq (.ops [a 2 (.mov (.k (I 32)))])
 .ret)
 .skip))
 (.seq (.ops [m 5 0,
  m 6 0,
  a 7 (.neg (T 6)),
  a 8 (.bin .and (T 5) (T 7)),
  a 9 (.bin .mul (T 8) (.k (.int .u32 (.ofNat 125613361)))),
  a 10 (.bin .shr (T 9) (.k (.int .u64 (.ofNat 27)))),
  a 11 (.idxArr 32 1 (.g 6) (T 10)),
  l 12 11,
  a 13 (.toInt .i64 (T 12)),
  m 2 13])
 .ret)))
def f180 : PFn := ⟨1, [.t 2], b180, false, true⟩
def b181 : PCode := (.seq (.ops [a 2 (.mov (.k (I 0)))])
 (.seq (.seq (.ops [m 3 0,
  a 4 (.bin .eql (T 3) (.k (.int .u64 (.ofNat 0))))])
 (.cond (T 4) (.seq (.ops [a 2 (.mov (.k (I 64)))])
 .ret)
 .skip))
 (.seq (.ops [m 5 0,
  m 6 0,
  a 7 (.neg (T 6)),
  a 8 (.bin .and (T 5) (T 7)),
  a 9 (.bin .mul (T 8) (.k (.int .u64 (.ofNat 285870213051353865)))),
  a 10 (.bin .shr (T 9) (.k (.int .u64 (.ofNat 58)))),
  a 11 (.idxArr 64 1 (.g 7) (T 10)),
  l 12 11,
  a 13 (.toInt .i64 (T 12)),
  m 2 13])
 .ret)))
def f181 : PFn := ⟨1, [.t 2], b181, false, true⟩
def b182 : PCode := (.seq (.ops [a 2 (.mov (.k .nilptr)),
  a 3 (.mov (.k (.bool false)))])
 (.seq (.ops [a 9 (.build [(I 0), (.bool false), (.int .u8 (.ofNat 0)), .nilptr, (.sl true [])] [(0, 1, (.k (I 1)))]),
  a 10 (.box 270 (T 9)),
  m 4 10])
 (.block 0 (.loop (some [0, 4]) (.block 1 (.seq (.ops [m 12 0,
  a 13 (.call 185 [(T 12)]),
  m 11 13,
  a 14 (.ext (T 11) 0),
  a 15 (.ext (T 11) 1),
  m 5 14,
  m 6 15])
 (.live [0, 4, 5, 6] (.seq (.seq (.ops [m 16 6,
  a 17 (.not (T 16)),
  m 18 17,
  g 19 (.mov (T 5)) 18 false,
  g 20 (.bin .eql (T 19) (.k (.int .u8 (.ofNat 124)))) 18 false,
  a 21 (.pick (T 18) (.k (.bool true)) (T 20)),
  m 22 21,
  g 23 (.mov (T 5)) 22 false,
  g 24 (.bin .eql (T 23) (.k (.int .u8 (.ofNat 41)))) 22 false,
  a 25 (.pick (T 22) (.k (.bool true)) (T 24))])
 (.live [0, 4, 25] (.cond (T 25) (.seq (.ops [m 26 4,
  m 2 26,
  a 3 (.mov (.k (.bool true)))])
 .ret)
 .skip)))
 (.live [0, 4] (.seq (.ops [m 28 0,
  a 29 (.call 186 [(T 28)]),
  m 27 29,
  a 30 (.ext (T 27) 0),
  a 31 (.ext (T 27) 1),
  m 7 30,
  m 8 31])
 (.live [0, 4, 7, 8] (.seq (.seq (.ops [m 32 8,
  a 33 (.not (T 32))])
 (.cond (T 33) (.seq (.ops [a 2 (.mov (.k .nilptr)),
  a 3 (.mov (.k (.bool false)))])
 .ret)
 .skip))
 (.ops [m 34 4,
  m 35 4,
  a 36 (.nilCheck (T 35)),
  q 37 4 36,
  l 38 37,
  m 39 7,
  a 40 (.buildSl false 1 1 .nilptr [(0, (T 39))]),
  a 41 (.app false 252 1 8 (T 38) (T 40)),
  a 42 (.nilCheck (T 34)),
  q 43 4 42,
  n (.store 1 (T 43) (T 41))])))))))))))))
def f182 : PFn := ⟨1, [.t 2, .t 3], b182, false, true⟩
def b183 : PCode := (.seq (.ops [a 4 (.mov (.k (.bool false)))])
 (.seq (.seq (.dops [m 5 0,
  a 6 (.nilCheck (T 5)),
  q 7 1 6,
  l 8 7,
  m 9 0,
  a 10 (.nilCheck (T 9)),
  q 11 0 10,
  l 12 11,
  a 13 (.lenStr (T 12)),
  a 14 (.bin .eql (T 8) (T 13)),
  m 15 14,
  g 16 (.mov (T 0)) 15 false,
  g 17 (.nilCheck (T 16)) 15 false,
  g 18 (.fldA 0 (T 17)) 15 false,
  g 19 (.load false 1 (T 18)) 15 false,
  g 20 (.mov (T 0)) 15 false,
  g 21 (.nilCheck (T 20)) 15 false,
  g 22 (.fldA 1 (T 21)) 15 false,
  g 23 (.load false 1 (T 22)) 15 false,
  g 24 (.idxStr (T 19) (T 23)) 15 false,
  g 25 (.mov (T 1)) 15 false,
  g 26 (.bin .neq (T 24) (T 25)) 15 false,
  a 27 (.pick (T 15) (.k (.bool true)) (T 26))] [[], [0], [1, 0], [2, 1, 0], [], [4], [5, 4], [6, 5, 4], [7, 6, 5, 4], [3, 8, 2, 1, 0, 7, 6, 5, 4], [9, 3, 8, 2, 1, 0, 7, 6, 5, 4], [10, 9, 3, 8, 2, 1, 0, 7, 6, 5, 4], [11, 10, 10, 9, 3, 8, 2, 1, 0, 7, 6, 5, 4, 9, 3, 8, 2, 1, 0, 7, 6, 5, 4], [12, 10, 11, 10, 10, 9, 3, 8, 2, 1, 0, 7, 6, 5, 4, 9, 3, 8, 2, 1, 0, 7, 6, 5, 4, 9, 3, 8, 2, 1, 0, 7, 6, 5, 4], [13, 10, 12, 10, 11, 10, 10, 9, 3, 8, 2, 1, 0, 7, 6, 5, 4, 9, 3, 8, 2, 1, 0, 7, 6, 5, 4, 9, 3, 8, 2, 1, 0, 7, 6, 5, 4, 9, 3, 8, 2, 1, 0, 7, 6, 5, 4], [10, 9, 3, 8, 2, 1, 0, 7, 6, 5, 4], [15, 10, 10, 9, 3, 8, 2, 1, 0, 7, 6, 5, 4, 9, 3, 8, 2, 1, 0, 7, 6, 5, 4], [16, 10, 15, 10, 10, 9, 3, 8, 2, 1, 0, 7, 6, 5, 4, 9, 3, 8, 2, 1, 0, 7, 6, 5, 4, 9, 3, 8, 2, 1, 0, 7, 6, 5, 4], [17, 10, 16, 10, 15, 10, 10, 9, 3, 8, 2, 1, 0, 7, 6, 5, 4, 9, 3, 8, 2, 1, 0, 7, 6, 5, 4, 9, 3, 8, 2, 1, 0, 7, 6, 5, 4, 9, 3, 8, 2, 1, 0, 7, 6, 5, 4], [14, 18, 10, 13, 10, 12, 10, 11, 10, 10, 9, 3, 8, 2, 1, 0, 7, 6, 5, 4, 9, 3, 8, 2, 1, 0, 7, 6, 5, 4, 9, 3, 8, 2, 1, 0, 7, 6, 5, 4, 9, 3, 8, 2, 1, 0, 7, 6, 5, 4, 17, 10, 16, 10, 15, 10, 10, 9, 3, 8, 2, 1, 0, 7, 6, 5, 4, 9, 3, 8, 2, 1, 0, 7, 6, 5, 4, 9, 3, 8, 2, 1, 0, 7, 6, 5, 4, 9, 3, 8, 2, 1, 0, 7, 6, 5, 4, 9, 3, 8, 2, 1, 0, 7, 6, 5, 4], [10, 9, 3, 8, 2, 1, 0, 7, 6, 5, 4], [19, 20, 10, 14, 18, 10, 13, 10, 12, 10, 11, 10, 10, 9, 3, 8, 2, 1, 0, 7, 6, 5, 4, 9, 3, 8, 2, 1, 0, 7, 6, 5, 4, 9, 3, 8, 2, 1, 0, 7, 6, 5, 4, 9, 3, 8, 2, 1, 0, 7, 6, 5, 4, 17, 10, 16, 10, 15, 10, 10, 9, 3, 8, 2, 1, 0, 7, 6, 5, 4, 9, 3, 8, 2, 1, 0, 7, 6, 5, 4, 9, 3, 8, 2, 1, 0, 7, 6, 5, 4, 9, 3, 8, 2, 1, 0, 7, 6, 5, 4, 9, 3, 8, 2, 1, 0, 7, 6, 5, 4, 10, 9, 3, 8, 2, 1, 0, 7, 6, 5, 4, 9, 3, 8, 2, 1, 0, 7, 6, 5, 4], [10, 21, 9, 3, 8, 2, 1, 0, 7, 6, 5, 4, 19, 20, 10, 14, 18, 10, 13, 10, 12, 10, 11, 10, 10, 9, 3, 8, 2, 1, 0, 7, 6, 5, 4, 9, 3, 8, 2, 1, 0, 7, 6, 5, 4, 9, 3, 8, 2, 1, 0, 7, 6, 5, 4, 9, 3, 8, 2, 1, 0, 7, 6, 5, 4, 17, 10, 16, 10, 15, 10, 10, 9, 3, 8, 2, 1, 0, 7, 6, 5, 4, 9, 3, 8, 2, 1, 0, 7, 6, 5, 4, 9, 3, 8, 2, 1, 0, 7, 6, 5, 4, 9, 3, 8, 2, 1, 0, 7, 6, 5, 4, 9, 3, 8, 2, 1, 0, 7, 6, 5, 4, 10, 9, 3, 8, 2, 1, 0, 7, 6, 5, 4, 9, 3, 8, 2, 1, 0, 7, 6, 5, 4]])
 (.cond (T 27) (.seq (.ops [a 4 (.mov (.k (.bool false)))])
 .ret)
 .skip))
 (.live [0] (.seq (.ops [m 28 0,
  a 29 (.nilCheck (T 28)),
  q 30 1 29,
  l 31 30,
  a 32 (.bin .add (T 31) (.k (I 1))),
  a 33 (.nilCheck (T 28)),
  q 34 1 33,
  n (.store 1 (T 34) (T 32))])
 (.seq (.ops [a 4 (.mov (.k (.bool true)))])
 .ret)))))
def f183 : PFn := ⟨2, [.t 4], b183, false, true⟩
def b184 : PCode := (.seq (.ops [a 4 (.mov (.k (.bool false)))])
 (.seq (.ops [m 5 0,
  a 6 (.lenStr (T 5)),
  m 7 1,
  a 8 (.lenStr (T 7)),
  a 9 (.bin .geq (T 6) (T 8)),
  m 10 9,
  g 11 (.mov (T 0)) 10 true,
  g 12 (.mov (T 1)) 10 true,
  g 13 (.lenStr (T 12)) 10 true,
  g 14 (.slStr (T 11) none (some (T 13))) 10 true,
  g 15 (.mov (T 1)) 10 true,
  g 16 (.bin .eql (T 14) (T 15)) 10 true,
  a 17 (.pick (T 10) (T 16) (.k (.bool false))),
  m 4 17])
 .ret))
def f184 : PFn := ⟨2, [.t 4], b184, false, true⟩
def b185 : PCode := (.seq (.ops [a 2 (.mov (.k (.int .u8 (.ofNat 0)))),
  a 3 (.mov (.k (.bool false)))])
 (.seq (.seq (.dops [m 4 0,
  a 5 (.nilCheck (T 4)),
  q 6 1 5,
  l 7 6,
  m 8 0,
  a 9 (.nilCheck (T 8)),
  q 10 0 9,
  l 11 10,
  a 12 (.lenStr (T 11)),
  a 13 (.bin .eql (T 7) (T 12))] [[], [0], [1, 0], [2, 1, 0], [], [4], [5, 4], [6, 5, 4], [7, 6, 5, 4], [3, 8, 2, 1, 0, 7, 6, 5, 4]])
 (.cond (T 13) (.seq (.ops [a 2 (.mov (.k (.int .u8 (.ofNat 0)))),
  a 3 (.mov (.k (.bool false)))])
 .ret)
 .skip))
 (.live [0] (.seq (.dops [m 14 0,
  a 15 (.nilCheck (T 14)),
  q 16 0 15,
  l 17 16,
  m 18 0,
  a 19 (.nilCheck (T 18)),
  q 20 1 19,
  l 21 20,
  a 22 (.idxStr (T 17) (T 21)),
  m 2 22,
  a 3 (.mov (.k (.bool true)))] [[], [0], [1, 0], [2, 1, 0], [], [4], [5, 4], [6, 5, 4], [3, 7, 2, 1, 0, 6, 5, 4], [8, 0, 1, 2, 3, 4, 5, 6, 7, 8, 3, 7, 2, 1, 0, 6, 5, 4, 0, 1, 0, 2, 1, 0, 4, 5, 4, 6, 5, 4, 3, 7, 2, 1, 0, 6, 5, 4], [9, 0, 1, 2, 3, 4, 5, 6, 7, 8, 9, 8, 0, 1, 2, 3, 4, 5, 6, 7, 8, 3, 7, 2, 1, 0, 6, 5, 4, 0, 1, 0, 2, 1, 0, 4, 5, 4, 6, 5, 4, 3, 7, 2, 1, 0, 6, 5, 4, 0, 1, 0, 2, 1, 0, 4, 5, 4, 6, 5, 4, 3, 7, 2, 1, 0, 6, 5, 4, 8, 0, 1, 2, 3, 4, 5, 6, 7, 8, 3, 7, 2, 1, 0, 6, 5, 4, 0, 1, 0, 2, 1, 0, 4, 5, 4, 6, 5, 4, 3, 7, 2, 1, 0, 6, 5, 4]])
 .ret))))
def f185 : PFn := ⟨1, [.t 2, .t 3], b185, false, true⟩
def b186 : PCode := (.seq (.ops [a 2 (.mov (.k .nilptr)),
  a 3 (.mov (.k (.bool false)))])
 (.seq (.ops [m 7 0,
  a 8 (.call 187 [(T 7)]),
  m 6 8,
  a 9 (.ext (T 6) 0),
  a 10 (.ext (T 6) 1),
  m 4 9,
  m 5 10])
 (.live [0, 4, 5] (.seq (.seq (.ops [m 11 5,
  a 12 (.not (T 11))])
 (.cond (T 12) (.seq (.ops [a 2 (.mov (.k .nilptr)),
  a 3 (.mov (.k (.bool false)))])
 .ret)
 .skip))
 (.seq (.block 0 (.seq (.ops [m 14 0,
  a 15 (.call 183 [(T 14), (.k (.int .u8 (.ofNat 42)))]),
  m 13 15])
 (.cond (T 13) (.seq (.ops [m 16 4,
  a 17 (.buildSl false 1 1 .nilptr [(0, (T 16))]),
  a 18 (.build [(I 0), (.bool false), (.int .u8 (.ofNat 0)), .nilptr, (.sl true [])] [(0, 1, (.k (I 3))), (4, 1, (T 17))]),
  a 19 (.box 270 (T 18)),
  m 2 19,
  a 3 (.mov (.k (.bool true)))])
 .ret)
 (.seq (.ops [m 21 0,
  a 22 (.call 183 [(T 21), (.k (.int .u8 (.ofNat 43)))]),
  m 20 22])
 (.cond (T 20) (.seq (.ops [m 23 4,
  a 24 (.buildSl false 1 1 .nilptr [(0, (T 23))]),
  a 25 (.build [(I 0), (.bool false), (.int .u8 (.ofNat 0)), .nilptr, (.sl true [])] [(0, 1, (.k (I 4))), (4, 1, (T 24))]),
  a 26 (.box 270 (T 25)),
  m 2 26,
  a 3 (.mov (.k (.bool true)))])
 .ret)
 (.seq (.ops [m 28 0,
  a 29 (.call 183 [(T 28), (.k (.int .u8 (.ofNat 63)))]),
  m 27 29])
 (.cond (T 27) (.seq (.ops [m 30 4,
  a 31 (.buildSl false 1 1 .nilptr [(0, (T 30))]),
  a 32 (.build [(I 0), (.bool false), (.int .u8 (.ofNat 0)), .nilptr, (.sl true [])] [(0, 1, (.k (I 5))), (4, 1, (T 31))]),
  a 33 (.box 270 (T 32)),
  m 2 33,
  a 3 (.mov (.k (.bool true)))])
 .ret)
 .skip)))))))
 (.live [4] (.seq (.ops [m 34 4,
  m 2 34,
  a 3 (.mov (.k (.bool true)))])
 .ret)))))))
def f186 : PFn := ⟨1, [.t 2, .t 3], b186, false, true⟩
def b187 : PCode := (.seq (.ops [a 2 (.mov (.k .nilptr)),
  a 3 (.mov (.k (.bool false)))])
 (.seq (.ops [m 9 0,
  a 10 (.call 185 [(T 9)]),
  m 8 10,
  a 11 (.ext (T 8) 0),
  a 12 (.ext (T 8) 1),
  m 4 11,
  m 5 12])
 (.live [0, 4, 5] (.seq (.seq (.ops [m 13 5,
  a 14 (.not (T 13))])
 (.cond (T 14) (.seq (.ops [a 2 (.mov (.k .nilptr)),
  a 3 (.mov (.k (.bool false)))])
 .ret)
 .skip))
 (.seq (.ops [m 15 0,
  a 16 (.nilCheck (T 15)),
  q 17 1 16,
  l 18 17,
  a 19 (.bin .add (T 18) (.k (I 1))),
  a 20 (.nilCheck (T 15)),
  q 21 1 20,
  n (.store 1 (T 21) (T 19))])
 (.live [0, 4] (.seq (.seq (.ops [m 22 4])
 (.block 0 (.seq (.ops [a 24 (.bin .eql (T 22) (.k (.int .u8 (.ofNat 40)))),
  m 23 24])
 (.cond (T 23) (.seq (.ops [m 26 0,
  a 27 (.call 178 [(T 26)]),
  m 25 27,
  a 28 (.ext (T 25) 0),
  a 29 (.ext (T 25) 1),
  m 6 28,
  m 7 29])
 (.live [0, 6, 7] (.seq (.seq (.ops [m 30 7,
  a 31 (.not (T 30)),
  m 32 31,
  g 33 (.mov (T 0)) 32 false,
  g 34 (.call 183 [(T 33), (.k (.int .u8 (.ofNat 41)))]) 32 false,
  g 35 (.not (T 34)) 32 false,
  a 36 (.pick (T 32) (.k (.bool true)) (T 35))])
 (.cond (T 36) (.seq (.ops [a 2 (.mov (.k .nilptr)),
  a 3 (.mov (.k (.bool false)))])
 .ret)
 .skip))
 (.live [6] (.seq (.ops [m 37 6,
  m 2 37,
  a 3 (.mov (.k (.bool true)))])
 .ret)))))
 (.seq (.ops [a 39 (.bin .eql (T 22) (.k (.int .u8 (.ofNat 91)))),
  m 38 39])
 (.cond (T 38) (.seq (.ops [m 40 0,
  a 41 (.call 188 [(T 40)]),
  a 42 (.ext (T 41) 0),
  a 43 (.ext (T 41) 1),
  m 2 42,
  m 3 43])
 .ret)
 (.seq (.ops [a 45 (.bin .eql (T 22) (.k (.int .u8 (.ofNat 46)))),
  m 44 45])
 (.cond (T 44) (.seq (.ops [a 46 (.call 189 [(.k (.func 190 []))]),
  a 47 (.build [(I 0), (.bool false), (.int .u8 (.ofNat 0)), .nilptr, (.sl true [])] [(0, 1, (.k (I 0))), (3, 1, (T 46))]),
  a 48 (.box 270 (T 47)),
  m 2 48,
  a 3 (.mov (.k (.bool true)))])
 .ret)
 (.seq (.ops [a 50 (.bin .eql (T 22) (.k (.int .u8 (.ofNat 92)))),
  m 49 50])
 (.cond (T 49) (.seq (.ops [m 51 0,
  a 52 (.call 191 [(T 51)]),
  a 53 (.ext (T 52) 0),
  a 54 (.ext (T 52) 1),
  m 2 53,
  m 3 54])
 .ret)
 .skip))))))))))
 (.live [4] (.seq (.seq (.ops [m 55 4,
  a 56 (.call 192 [(.k (.str [.ofNat 46, .ofNat 91, .ofNat 93, .ofNat 40, .ofNat 41, .ofNat 124, .ofNat 42, .ofNat 43, .ofNat 63, .ofNat 92])), (T 55)]),
  a 57 (.bin .geq (T 56) (.k (I 0)))])
 (.cond (T 57) (.seq (.ops [a 2 (.mov (.k .nilptr)),
  a 3 (.mov (.k (.bool false)))])
 .ret)
 .skip))
 (.seq (.ops [m 58 4,
  a 59 (.call 193 [(T 58)]),
  m 2 59,
  a 3 (.mov (.k (.bool true)))])
 .ret))))))))))
def f187 : PFn := ⟨1, [.t 2, .t 3], b187, false, true⟩
def b188 : PCode := (.seq (.ops [a 2 (.mov (.k .nilptr)),
  a 3 (.mov (.k (.bool false)))])
 (.seq (.ops [m 11 0,
  a 12 (.call 183 [(T 11), (.k (.int .u8 (.ofNat 94)))]),
  a 4 (.alloc 4 [(.bool false)]),
  n (.store 1 (T 4) (T 12))])
 (.seq (.ops [a 5 (.alloc 278 [(.bool false), (.bool false), (.bool false), (.bool false), (.bool false), (.bool false), (.bool false), (.bool false), (.bool false), (.bool false), (.bool false), (.bool false), (.bool false), (.bool false), (.bool false), (.bool false), (.bool false), (.bool false), (.bool false), (.bool false), (.bool false), (.bool false), (.bool false), (.bool false), (.bool false), (.bool false), (.bool false), (.bool false), (.bool false), (.bool false), (.bool false), (.bool false), (.bool false), (.bool false), (.bool false), (.bool false), (.bool false), (.bool false), (.bool false), (.bool false), (.bool false), (.bool false), (.bool false), (.bool false), (.bool false), (.bool false), (.bool false), (.bool false), (.bool false), (.bool false), (.bool false), (.bool false), (.bool false), (.bool false), (.bool false), (.bool false), (.bool false), (.bool false), (.bool false), (.bool false), (.bool false), (.bool false), (.bool false), (.bool false), (.bool false), (.bool false), (.bool false), (.bool false), (.bool false), (.bool false), (.bool false), (.bool false), (.bool false), (.bool false), (.bool false), (.bool false), (.bool false), (.bool false), (.bool false), (.bool false), (.bool false), (.bool false), (.bool false), (.bool false), (.bool false), (.bool false), (.bool false), (.bool false), (.bool false), (.bool false), (.bool false), (.bool false), (.bool false), (.bool false), (.bool false), (.bool false), (.bool false), (.bool false), (.bool false), (.bool false), (.bool false), (.bool false), (.bool false), (.bool false), (.bool false), (.bool false), (.bool false), (.bool false), (.bool false), (.bool false), (.bool false), (.bool false), (.bool false), (.bool false), (.bool false), (.bool false), (.bool false), (.bool false), (.bool false), (.bool false), (.bool false), (.bool false), (.bool false), (.bool false), (.bool false), (.bool false), (.bool false), (.bool false), (.bool false), (.bool false), (.bool false), (.bool false), (.bool false), (.bool false), (.bool false), (.bool false), (.bool false), (.bool false), (.bool false), (.bool false), (.bool false), (.bool false), (.bool false), (.bool false), (.bool false), (.bool false), (.bool false), (.bool false), (.bool false), (.bool false), (.bool false), (.bool false), (.bool false), (.bool false), (.bool false), (.bool false), (.bool false), (.bool false), (.bool false), (.bool false), (.bool false), (.bool false), (.bool false), (.bool false), (.bool false), (.bool false), (.bool false), (.bool false), (.bool false), (.bool false), (.bool false), (.bool false), (.bool false), (.bool false), (.bool false), (.bool false), (.bool false), (.bool false), (.bool false), (.bool false), (.bool false), (.bool false), (.bool false), (.bool false), (.bool false), (.bool false), (.bool false), (.bool false), (.bool false), (.bool false), (.bool false), (.bool false), (.bool false), (.bool false), (.bool false), (.bool false), (.bool false), (.bool false), (.bool false), (.bool false), (.bool false), (.bool false), (.bool false), (.bool false), (.bool false), (.bool false), (.bool false), (.bool false), (.bool false), (.bool false), (.bool false), (.bool false), (.bool false), (.bool false), (.bool false), (.bool false), (.bool false), (.bool false), (.bool false), (.bool false), (.bool false), (.bool false), (.bool false), (.bool false), (.bool false), (.bool false), (.bool false), (.bool false), (.bool false), (.bool false), (.bool false), (.bool false), (.bool false), (.bool false), (.bool false), (.bool false), (.bool false), (.bool false), (.bool false), (.bool false), (.bool false), (.bool false), (.bool false), (.bool false), (.bool false), (.bool false), (.bool false), (.bool false), (.bool false), (.bool false), (.bool false), (.bool false), (.bool false), (.bool false), (.bool false), (.bool false)])])
 (.seq (.seq (.ops [a 6 (.mov (.k (.bool false)))])
 (.block 0 (.loop (some [0, 4, 5, 6]) (.seq (.seq (.ops [m 13 6,
  a 14 (.not (T 13))])
 (.cond (T 14) .skip
 (.exit 0)))
 (.seq (.block 1 (.seq (.ops [m 18 0,
  a 19 (.call 194 [(T 18)]),
  m 17 19,
  a 20 (.ext (T 17) 0),
  a 21 (.ext (T 17) 1),
  m 7 20,
  m 8 21])
 (.live [0, 4, 5, 7, 8] (.seq (.seq (.ops [m 22 8,
  a 23 (.not (T 22))])
 (.cond (T 23) (.seq (.ops [a 2 (.mov (.k .nilptr)),
  a 3 (.mov (.k (.bool false)))])
 .ret)
 .skip))
 (.seq (.ops [m 24 7,
  m 9 24])
 (.seq (.seq (.ops [m 25 0,
  a 26 (.call 195 [(T 25)])])
 (.cond (T 26) (.seq (.ops [m 27 0,
  a 28 (.nilCheck (T 27)),
  q 29 1 28,
  l 30 29,
  a 31 (.bin .add (T 30) (.k (I 1))),
  a 32 (.nilCheck (T 27)),
  q 33 1 32,
  n (.store 1 (T 33) (T 31))])
 (.live [0, 4, 5, 7] (.seq (.ops [m 35 0,
  a 36 (.call 194 [(T 35)]),
  m 34 36,
  a 37 (.ext (T 34) 0),
  a 38 (.ext (T 34) 1),
  m 9 37,
  m 8 38])
 (.live [0, 4, 5, 7, 8, 9] (.seq (.ops [m 39 8,
  a 40 (.not (T 39)),
  m 41 40,
  g 42 (.mov (T 9)) 41 false,
  g 43 (.mov (T 7)) 41 false,
  g 44 (.bin .lss (T 42) (T 43)) 41 false,
  a 45 (.pick (T 41) (.k (.bool true)) (T 44))])
 (.cond (T 45) (.seq (.ops [a 2 (.mov (.k .nilptr)),
  a 3 (.mov (.k (.bool false)))])
 .ret)
 .skip))))))
 .skip))
 (.live [0, 4, 5, 7, 9] (.seq (.ops [m 46 7,
  a 47 (.toInt .i64 (T 46)),
  m 10 47])
 (.block 2 (.loop (some [0, 4, 5, 9, 10]) (.seq (.seq (.ops [m 48 10,
  m 49 9,
  a 50 (.toInt .i64 (T 49)),
  a 51 (.bin .leq (T 48) (T 50))])
 (.cond (T 51) .skip
 (.exit 2)))
 (.seq (.block 3 (.ops [m 54 10,
  a 55 (.idxArr 256 1 (T 5) (T 54)),
  n (.store 1 (T 55) (.k (.bool true)))]))
 (.ops [m 52 10,
  a 53 (.bin .add (T 52) (.k (I 1))),
  m 10 53])))))))))))))
 (.live [0, 4, 5] (.ops [m 15 0,
  a 16 (.call 183 [(T 15), (.k (.int .u8 (.ofNat 93)))]),
  m 6 16])))))))
 (.live [4, 5] (.seq (.ops [a 56 (.mkFn 196 [(T 5), (T 4)]),
  a 57 (.call 189 [(T 56)]),
  a 58 (.build [(I 0), (.bool false), (.int .u8 (.ofNat 0)), .nilptr, (.sl true [])] [(0, 1, (.k (I 0))), (3, 1, (T 57))]),
  a 59 (.box 270 (T 58)),
  m 2 59,
  a 3 (.mov (.k (.bool true)))])
 .ret))))))
def f188 : PFn := ⟨1, [.t 2, .t 3], b188, false, true⟩
def b189 : PCode := (.seq (.ops [a 2 (.mov (.k .nilptr))])
 (.seq (.ops [a 3 (.alloc 278 [(.bool false), (.bool false), (.bool false), (.bool false), (.bool false), (.bool false), (.bool false), (.bool false), (.bool false), (.bool false), (.bool false), (.bool false), (.bool false), (.bool false), (.bool false), (.bool false), (.bool false), (.bool false), (.bool false), (.bool false), (.bool false), (.bool false), (.bool false), (.bool false), (.bool false), (.bool false), (.bool false), (.bool false), (.bool false), (.bool false), (.bool false), (.bool false), (.bool false), (.bool false), (.bool false), (.bool false), (.bool false), (.bool false), (.bool false), (.bool false), (.bool false), (.bool false), (.bool false), (.bool false), (.bool false), (.bool false), (.bool false), (.bool false), (.bool false), (.bool false), (.bool false), (.bool false), (.bool false), (.bool false), (.bool false), (.bool false), (.bool false), (.bool false), (.bool false), (.bool false), (.bool false), (.bool false), (.bool false), (.bool false), (.bool false), (.bool false), (.bool false), (.bool false), (.bool false), (.bool false), (.bool false), (.bool false), (.bool false), (.bool false), (.bool false), (.bool false), (.bool false), (.bool false), (.bool false), (.bool false), (.bool false), (.bool false), (.bool false), (.bool false), (.bool false), (.bool false), (.bool false), (.bool false), (.bool false), (.bool false), (.bool false), (.bool false), (.bool false), (.bool false), (.bool false), (.bool false), (.bool false), (.bool false), (.bool false), (.bool false), (.bool false), (.bool false), (.bool false), (.bool false), (.bool false), (.bool false), (.bool false), (.bool false), (.bool false), (.bool false), (.bool false), (.bool false), (.bool false), (.bool false), (.bool false), (.bool false), (.bool false), (.bool false), (.bool false), (.bool false), (.bool false), (.bool false), (.bool false), (.bool false), (.bool false), (.bool false), (.bool false), (.bool false), (.bool false), (.bool false), (.bool false), (.bool false), (.bool false), (.bool false), (.bool false), (.bool false), (.bool false), (.bool false), (.bool false), (.bool false), (.bool false), (.bool false), (.bool false), (.bool false), (.bool false), (.bool false), (.bool false), (.bool false), (.bool false), (.bool false), (.bool false), (.bool false), (.bool false), (.bool false), (.bool false), (.bool false), (.bool false), (.bool false), (.bool false), (.bool false), (.bool false), (.bool false), (.bool false), (.bool false), (.bool false), (.bool false), (.bool false), (.bool false), (.bool false), (.bool false), (.bool false), (.bool false), (.bool false), (.bool false), (.bool false), (.bool false), (.bool false), (.bool false), (.bool false), (.bool false), (.bool false), (.bool false), (.bool false), (.bool false), (.bool false), (.bool false), (.bool false), (.bool false), (.bool false), (.bool false), (.bool false), (.bool false), (.bool false), (.bool false), (.bool false), (.bool false), (.bool false), (.bool false), (.bool false), (.bool false), (.bool false), (.bool false), (.bool false), (.bool false), (.bool false), (.bool false), (.bool false), (.bool false), (.bool false), (.bool false), (.bool false), (.bool false), (.bool false), (.bool false), (.bool false), (.bool false), (.bool false), (.bool false), (.bool false), (.bool false), (.bool false), (.bool false), (.bool false), (.bool false), (.bool false), (.bool false), (.bool false), (.bool false), (.bool false), (.bool false), (.bool false), (.bool false), (.bool false), (.bool false), (.bool false), (.bool false), (.bool false), (.bool false), (.bool false), (.bool false), (.bool false), (.bool false), (.bool false), (.bool false), (.bool false), (.bool false), (.bool false), (.bool false), (.bool false), (.bool false), (.bool false), (.bool false), (.bool false), (.bool false), (.bool false), (.bool false)])])
 (.seq (.seq (.ops [a 5 (.mov (.k (I 0)))])
 (.block 0 (.loop (some [0, 3, 5]) (.seq (.ops [a 6 (.bin .lss (T 5) (.k (I 256)))])
 (.seq (.cond (T 6) .skip
 (.exit 0))
 (.seq (.block 1 (.seq (.ops [m 7 5,
  m 4 7])
 (.ops [m 8 4,
  m 9 0,
  m 10 4,
  a 11 (.toInt .u8 (T 10)),
  a 12 (.callv (T 9) [(T 11)]),
  a 13 (.idxArr 256 1 (T 3) (T 8)),
  n (.store 1 (T 13) (T 12))])))
 (.ops [a 14 (.bin .add (T 5) (.k (I 1))),
  m 5 14])))))))
 (.seq (.ops [m 2 3])
 .ret))))
def f189 : PFn := ⟨1, [.t 2], b189, false, true⟩
def b190 : PCode := (.seq (.ops [a 2 (.mov (.k (.bool false)))])
 (.seq (.ops [a 2 (.mov (.k (.bool true)))])
 .ret))
def f190 : PFn := ⟨1, [.t 2], b190, false, true⟩
def b191 : PCode := (.seq (.ops [a 2 (.mov (.k .nilptr)),
  a 3 (.mov (.k (.bool false)))])
 (.seq (.ops [m 7 0,
  a 8 (.call 185 [(T 7)]),
  m 6 8,
  a 9 (.ext (T 6) 0),
  a 10 (.ext (T 6) 1),
  m 4 9,
  m 5 10])
 (.live [0, 4, 5] (.seq (.seq (.ops [m 11 5,
  a 12 (.not (T 11))])
 (.cond (T 12) (.seq (.ops [a 2 (.mov (.k .nilptr)),
  a 3 (.mov (.k (.bool false)))])
 .ret)
 .skip))
 (.seq (.ops [m 13 0,
  a 14 (.nilCheck (T 13)),
  q 15 1 14,
  l 16 15,
  a 17 (.bin .add (T 16) (.k (I 1))),
  a 18 (.nilCheck (T 13)),
  q 19 1 18,
  n (.store 1 (T 19) (T 17))])
 (.live [4] (.seq (.block 0 (.seq (.ops [m 21 4,
  a 22 (.bin .eql (T 21) (.k (.int .u8 (.ofNat 110)))),
  m 20 22])
 (.cond (T 20) (.seq (.ops [a 23 (.call 193 [(.k (.int .u8 (.ofNat 10)))]),
  m 2 23,
  a 3 (.mov (.k (.bool true)))])
 .ret)
 (.seq (.ops [m 25 4,
  a 26 (.bin .eql (T 25) (.k (.int .u8 (.ofNat 116)))),
  m 24 26])
 (.cond (T 24) (.seq (.ops [a 27 (.call 193 [(.k (.int .u8 (.ofNat 9)))]),
  m 2 27,
  a 3 (.mov (.k (.bool true)))])
 .ret)
 (.seq (.ops [m 29 4,
  a 30 (.bin .eql (T 29) (.k (.int .u8 (.ofNat 100)))),
  m 28 30])
 (.cond (T 28) (.seq (.ops [a 31 (.call 189 [(.k (.func 197 []))]),
  a 32 (.build [(I 0), (.bool false), (.int .u8 (.ofNat 0)), .nilptr, (.sl true [])] [(0, 1, (.k (I 0))), (3, 1, (T 31))]),
  a 33 (.box 270 (T 32)),
  m 2 33,
  a 3 (.mov (.k (.bool true)))])
 .ret)
 (.seq (.ops [m 35 4,
  a 36 (.bin .eql (T 35) (.k (.int .u8 (.ofNat 119)))),
  m 34 36])
 (.cond (T 34) (.seq (.ops [a 37 (.call 189 [(.k (.func 198 []))]),
  a 38 (.build [(I 0), (.bool false), (.int .u8 (.ofNat 0)), .nilptr, (.sl true [])] [(0, 1, (.k (I 0))), (3, 1, (T 37))]),
  a 39 (.box 270 (T 38)),
  m 2 39,
  a 3 (.mov (.k (.bool true)))])
 .ret)
 (.seq (.ops [m 41 4,
  a 42 (.call 199 [(T 41)]),
  m 43 42,
  g 44 (.mov (T 4)) 43 false,
  g 45 (.call 197 [(T 44)]) 43 false,
  a 46 (.pick (T 43) (.k (.bool true)) (T 45)),
  m 40 46])
 (.cond (T 40) (.seq (.ops [a 2 (.mov (.k .nilptr)),
  a 3 (.mov (.k (.bool false)))])
 .ret)
 .skip)))))))))))
 (.live [4] (.seq (.ops [m 47 4,
  a 48 (.call 193 [(T 47)]),
  m 2 48,
  a 3 (.mov (.k (.bool true)))])
 .ret)))))))))
def f191 : PFn := ⟨1, [.t 2, .t 3], b191, false, true⟩
def b192 : PCode := (.seq (.ops [a 4 (.mov (.k (I 0)))])
 (.seq (.ops [m 5 0,
  m 6 1,
  a 7 (.call 136 [(T 5), (T 6)]),
  m 4 7])
 .ret))
def f192 : PFn := ⟨2, [.t 4], b192, false, true⟩
def b193 : PCode := (.seq (.ops [a 2 (.mov (.k .nilptr))])
 (.seq (.ops [m 3 0,
  a 4 (.build [(I 0), (.bool false), (.int .u8 (.ofNat 0)), .nilptr, (.sl true [])] [(0, 1, (.k (I 0))), (1, 1, (.k (.bool true))), (2, 1, (T 3))]),
  a 5 (.box 270 (T 4)),
  m 2 5])
 .ret))
def f193 : PFn := ⟨1, [.t 2], b193, false, true⟩
def b194 : PCode := (.seq (.ops [a 2 (.mov (.k (.int .u8 (.ofNat 0)))),
  a 3 (.mov (.k (.bool false)))])
 (.seq (.ops [m 9 0,
  a 10 (.call 185 [(T 9)]),
  m 8 10,
  a 11 (.ext (T 8) 0),
  a 12 (.ext (T 8) 1),
  m 4 11,
  m 5 12])
 (.live [0, 4, 5] (.seq (.seq (.ops [m 13 5,
  a 14 (.not (T 13)),
  m 15 14,
  g 16 (.mov (T 4)) 15 false,
  g 17 (.bin .eql (T 16) (.k (.int .u8 (.ofNat 93)))) 15 false,
  a 18 (.pick (T 15) (.k (.bool true)) (T 17))])
 (.cond (T 18) (.seq (.ops [a 2 (.mov (.k (.int .u8 (.ofNat 0)))),
  a 3 (.mov (.k (.bool false)))])
 .ret)
 .skip))
 (.live [0, 4] (.seq (.ops [m 19 0,
  a 20 (.nilCheck (T 19)),
  q 21 1 20,
  l 22 21,
  a 23 (.bin .add (T 22) (.k (I 1))),
  a 24 (.nilCheck (T 19)),
  q 25 1 24,
  n (.store 1 (T 25) (T 23))])
 (.live [0, 4] (.seq (.seq (.ops [m 26 4,
  a 27 (.bin .neq (T 26) (.k (.int .u8 (.ofNat 92))))])
 (.cond (T 27) (.seq (.ops [m 28 4,
  m 2 28,
  a 3 (.mov (.k (.bool true)))])
 .ret)
 .skip))
 (.seq (.ops [m 30 0,
  a 31 (.call 191 [(T 30)]),
  m 29 31,
  a 32 (.ext (T 29) 0),
  a 33 (.ext (T 29) 1),
  m 6 32,
  m 7 33])
 (.live [6, 7] (.seq (.seq (.ops [m 34 7,
  a 35 (.not (T 34)),
  m 36 35,
  g 37 (.mov (T 6)) 36 false,
  g 38 (.nilCheck (T 37)) 36 false,
  g 39 (.fldA 1 (T 38)) 36 false,
  g 40 (.load false 1 (T 39)) 36 false,
  g 41 (.not (T 40)) 36 false,
  a 42 (.pick (T 36) (.k (.bool true)) (T 41))])
 (.cond (T 42) (.seq (.ops [a 2 (.mov (.k (.int .u8 (.ofNat 0)))),
  a 3 (.mov (.k (.bool false)))])
 .ret)
 .skip))
 (.live [6] (.seq (.ops [m 43 6,
  a 44 (.nilCheck (T 43)),
  q 45 2 44,
  l 46 45,
  m 2 46,
  a 3 (.mov (.k (.bool true)))])
 .ret)))))))))))))
def f194 : PFn := ⟨1, [.t 2, .t 3], b194, false, true⟩
def b195 : PCode := (.seq (.ops [a 2 (.mov (.k (.bool false)))])
 (.seq (.dops [m 3 0,
  a 4 (.nilCheck (T 3)),
  q 5 1 4,
  l 6 5,
  a 7 (.bin .add (T 6) (.k (I 1))),
  m 8 0,
  a 9 (.nilCheck (T 8)),
  q 10 0 9,
  l 11 10,
  a 12 (.lenStr (T 11)),
  a 13 (.bin .lss (T 7) (T 12)),
  m 14 13,
  g 15 (.mov (T 0)) 14 true,
  g 16 (.nilCheck (T 15)) 14 true,
  g 17 (.fldA 0 (T 16)) 14 true,
  g 18 (.load false 1 (T 17)) 14 true,
  g 19 (.mov (T 0)) 14 true,
  g 20 (.nilCheck (T 19)) 14 true,
  g 21 (.fldA 1 (T 20)) 14 true,
  g 22 (.load false 1 (T 21)) 14 true,
  g 23 (.idxStr (T 18) (T 22)) 14 true,
  g 24 (.bin .eql (T 23) (.k (.int .u8 (.ofNat 45)))) 14 true,
  a 25 (.pick (T 14) (T 24) (.k (.bool false))),
  m 26 25,
  g 27 (.mov (T 0)) 26 true,
  g 28 (.nilCheck (T 27)) 26 true,
  g 29 (.fldA 0 (T 28)) 26 true,
  g 30 (.load false 1 (T 29)) 26 true,
  g 31 (.mov (T 0)) 26 true,
  g 32 (.nilCheck (T 31)) 26 true,
  g 33 (.fldA 1 (T 32)) 26 true,
  g 34 (.load false 1 (T 33)) 26 true,
  g 35 (.bin .add (T 34) (.k (I 1))) 26 true,
  g 36 (.idxStr (T 30) (T 35)) 26 true,
  g 37 (.bin .neq (T 36) (.k (.int .u8 (.ofNat 93)))) 26 true,
  a 38 (.pick (T 26) (T 37) (.k (.bool false))),
  m 2 38] [[], [0], [1, 0], [2, 1, 0], [3, 2, 1, 0], [], [5], [6, 5], [7, 6, 5], [8, 7, 6, 5], [4, 9, 3, 2, 1, 0, 8, 7, 6, 5], [10, 4, 9, 3, 2, 1, 0, 8, 7, 6, 5], [11, 10, 4, 9, 3, 2, 1, 0, 8, 7, 6, 5], [12, 11, 11, 10, 4, 9, 3, 2, 1, 0, 8, 7, 6, 5, 10, 4, 9, 3, 2, 1, 0, 8, 7, 6, 5], [13, 11, 12, 11, 11, 10, 4, 9, 3, 2, 1, 0, 8, 7, 6, 5, 10, 4, 9, 3, 2, 1, 0, 8, 7, 6, 5, 10, 4, 9, 3, 2, 1, 0, 8, 7, 6, 5], [14, 11, 13, 11, 12, 11, 11, 10, 4, 9, 3, 2, 1, 0, 8, 7, 6, 5, 10, 4, 9, 3, 2, 1, 0, 8, 7, 6, 5, 10, 4, 9, 3, 2, 1, 0, 8, 7, 6, 5, 10, 4, 9, 3, 2, 1, 0, 8, 7, 6, 5], [11, 10, 4, 9, 3, 2, 1, 0, 8, 7, 6, 5], [16, 11, 11, 10, 4, 9, 3, 2, 1, 0, 8, 7, 6, 5, 10, 4, 9, 3, 2, 1, 0, 8, 7, 6, 5], [17, 11, 16, 11, 11, 10, 4, 9, 3, 2, 1, 0, 8, 7, 6, 5, 10, 4, 9, 3, 2, 1, 0, 8, 7, 6, 5, 10, 4, 9, 3, 2, 1, 0, 8, 7, 6, 5], [18, 11, 17, 11, 16, 11, 11, 10, 4, 9, 3, 2, 1, 0, 8, 7, 6, 5, 10, 4, 9, 3, 2, 1, 0, 8, 7, 6, 5, 10, 4, 9, 3, 2, 1, 0, 8, 7, 6, 5, 10, 4, 9, 3, 2, 1, 0, 8, 7, 6, 5], [15, 19, 11, 14, 11, 13, 11, 12, 11, 11, 10, 4, 9, 3, 2, 1, 0, 8, 7, 6, 5, 10, 4, 9, 3, 2, 1, 0, 8, 7, 6, 5, 10, 4, 9, 3, 2, 1, 0, 8, 7, 6, 5, 10, 4, 9, 3, 2, 1, 0, 8, 7, 6, 5, 18, 11, 17, 11, 16, 11, 11, 10, 4, 9, 3, 2, 1, 0, 8, 7, 6, 5, 10, 4, 9, 3, 2, 1, 0, 8, 7, 6, 5, 10, 4, 9, 3, 2, 1, 0, 8, 7, 6, 5, 10, 4, 9, 3, 2, 1, 0, 8, 7, 6, 5, 10, 4, 9, 3, 2, 1, 0, 8, 7, 6, 5], [20, 11, 15, 19, 11, 14, 11, 13, 11, 12, 11, 11, 10, 4, 9, 3, 2, 1, 0, 8, 7, 6, 5, 10, 4, 9, 3, 2, 1, 0, 8, 7, 6, 5, 10, 4, 9, 3, 2, 1, 0, 8, 7, 6, 5, 10, 4, 9, 3, 2, 1, 0, 8, 7, 6, 5, 18, 11, 17, 11, 16, 11, 11, 10, 4, 9, 3, 2, 1, 0, 8, 7, 6, 5, 10, 4, 9, 3, 2, 1, 0, 8, 7, 6, 5, 10, 4, 9, 3, 2, 1, 0, 8, 7, 6, 5, 10, 4, 9, 3, 2, 1, 0, 8, 7, 6, 5, 10, 4, 9, 3, 2, 1, 0, 8, 7, 6, 5, 10, 4, 9, 3, 2, 1, 0, 8, 7, 6, 5], [11, 21, 10, 4, 9, 3, 2, 1, 0, 8, 7, 6, 5, 20, 11, 15, 19, 11, 14, 11, 13, 11, 12, 11, 11, 10, 4, 9, 3, 2, 1, 0, 8, 7, 6, 5, 10, 4, 9, 3, 2, 1, 0, 8, 7, 6, 5, 10, 4, 9, 3, 2, 1, 0, 8, 7, 6, 5, 10, 4, 9, 3, 2, 1, 0, 8, 7, 6, 5, 18, 11, 17, 11, 16, 11, 11, 10, 4, 9, 3, 2, 1, 0, 8, 7, 6, 5, 10, 4, 9, 3, 2, 1, 0, 8, 7, 6, 5, 10, 4, 9, 3, 2, 1, 0, 8, 7, 6, 5, 10, 4, 9, 3, 2, 1, 0, 8, 7, 6, 5, 10, 4, 9, 3, 2, 1, 0, 8, 7, 6, 5, 10, 4, 9, 3, 2, 1, 0, 8, 7, 6, 5], [22, 11, 11, 21, 10, 4, 9, 3, 2, 1, 0, 8, 7, 6, 5, 20, 11, 15, 19, 11, 14, 11, 13, 11, 12, 11, 11, 10, 4, 9, 3, 2, 1, 0, 8, 7, 6, 5, 10, 4, 9, 3, 2, 1, 0, 8, 7, 6, 5, 10, 4, 9, 3, 2, 1, 0, 8, 7, 6, 5, 10, 4, 9, 3, 2, 1, 0, 8, 7, 6, 5, 18, 11, 17, 11, 16, 11, 11, 10, 4, 9, 3, 2, 1, 0, 8, 7, 6, 5, 10, 4, 9, 3, 2, 1, 0, 8, 7, 6, 5, 10, 4, 9, 3, 2, 1, 0, 8, 7, 6, 5, 10, 4, 9, 3, 2, 1, 0, 8, 7, 6, 5, 10, 4, 9, 3, 2, 1, 0, 8, 7, 6, 5, 10, 4, 9, 3, 2, 1, 0, 8, 7, 6, 5, 10, 4, 9, 3, 2, 1, 0, 8, 7, 6, 5], [23, 22, 11, 11, 21, 10, 4, 9, 3, 2, 1, 0, 8, 7, 6, 5, 20, 11, 15, 19, 11, 14, 11, 13, 11, 12, 11, 11, 10, 4, 9, 3, 2, 1, 0, 8, 7, 6, 5, 10, 4, 9, 3, 2, 1, 0, 8, 7, 6, 5, 10, 4, 9, 3, 2, 1, 0, 8, 7, 6, 5, 10, 4, 9, 3, 2, 1, 0, 8, 7, 6, 5, 18, 11, 17, 11, 16, 11, 11, 10, 4, 9, 3, 2, 1, 0, 8, 7, 6, 5, 10, 4, 9, 3, 2, 1, 0, 8, 7, 6, 5, 10, 4, 9, 3, 2, 1, 0, 8, 7, 6, 5, 10, 4, 9, 3, 2, 1, 0, 8, 7, 6, 5, 10, 4, 9, 3, 2, 1, 0, 8, 7, 6, 5, 10, 4, 9, 3, 2, 1, 0, 8, 7, 6, 5, 10, 4, 9, 3, 2, 1, 0, 8, 7, 6, 5], [24, 23, 23, 22, 11, 11, 21, 10, 4, 9, 3, 2, 1, 0, 8, 7, 6, 5, 20, 11, 15, 19, 11, 14, 11, 13, 11, 12, 11, 11, 10, 4, 9, 3, 2, 1, 0, 8, 7, 6, 5, 10, 4, 9, 3, 2, 1, 0, 8, 7, 6, 5, 10, 4, 9, 3, 2, 1, 0, 8, 7, 6, 5, 10, 4, 9, 3, 2, 1, 0, 8, 7, 6, 5, 18, 11, 17, 11, 16, 11, 11, 10, 4, 9, 3, 2, 1, 0, 8, 7, 6, 5, 10, 4, 9, 3, 2, 1, 0, 8, 7, 6, 5, 10, 4, 9, 3, 2, 1, 0, 8, 7, 6, 5, 10, 4, 9, 3, 2, 1, 0, 8, 7, 6, 5, 10, 4, 9, 3, 2, 1, 0, 8, 7, 6, 5, 10, 4, 9, 3, 2, 1, 0, 8, 7, 6, 5, 10, 4, 9, 3, 2, 1, 0, 8, 7, 6, 5, 22, 11, 11, 21, 10, 4, 9, 3, 2, 1, 0, 8, 7, 6, 5, 20, 11, 15, 19, 11, 14, 11, 13, 11, 12, 11, 11, 10, 4, 9, 3, 2, 1, 0, 8, 7, 6, 5, 10, 4, 9, 3, 2, 1, 0, 8, 7, 6, 5, 10, 4, 9, 3, 2, 1, 0, 8, 7, 6, 5, 10, 4, 9, 3, 2, 1, 0, 8, 7, 6, 5, 18, 11, 17, 11, 16, 11, 11, 10, 4, 9, 3, 2, 1, 0, 8, 7, 6, 5, 10, 4, 9, 3, 2, 1, 0, 8, 7, 6, 5, 10, 4, 9, 3, 2, 1, 0, 8, 7, 6, 5, 10, 4, 9, 3, 2, 1, 0, 8, 7, 6, 5, 10, 4, 9, 3, 2, 1, 0, 8, 7, 6, 5, 10, 4, 9, 3, 2, 1, 0, 8, 7, 6, 5, 10, 4, 9, 3, 2, 1, 0, 8, 7, 6, 5], [25, 23, 24, 23, 23, 22, 11, 11, 21, 10, 4, 9, 3, 2, 1, 0, 8, 7, 6, 5, 20, 11, 15, 19, 11, 14, 11, 13, 11, 12, 11, 11, 10, 4, 9, 3, 2, 1, 0, 8, 7, 6, 5, 10, 4, 9, 3, 2, 1, 0, 8, 7, 6, 5, 10, 4, 9, 3, 2, 1, 0, 8, 7, 6, 5, 10, 4, 9, 3, 2, 1, 0, 8, 7, 6, 5, 18, 11, 17, 11, 16, 11, 11, 10, 4, 9, 3, 2, 1, 0, 8, 7, 6, 5, 10, 4, 9, 3, 2, 1, 0, 8, 7, 6, 5, 10, 4, 9, 3, 2, 1, 0, 8, 7, 6, 5, 10, 4, 9, 3, 2, 1, 0, 8, 7, 6, 5, 10, 4, 9, 3, 2, 1, 0, 8, 7, 6, 5, 10, 4, 9, 3, 2, 1, 0, 8, 7, 6, 5, 10, 4, 9, 3, 2, 1, 0, 8, 7, 6, 5, 22, 11, 11, 21, 10, 4, 9, 3, 2, 1, 0, 8, 7, 6, 5, 20, 11, 15, 19, 11, 14, 11, 13, 11, 12, 11, 11, 10, 4, 9, 3, 2, 1, 0, 8, 7, 6, 5, 10, 4, 9, 3, 2, 1, 0, 8, 7, 6, 5, 10, 4, 9, 3, 2, 1, 0, 8, 7, 6, 5, 10, 4, 9, 3, 2, 1, 0, 8, 7, 6, 5, 18, 11, 17, 11, 16, 11, 11, 10, 4, 9, 3, 2, 1, 0, 8, 7, 6, 5, 10, 4, 9, 3, 2, 1, 0, 8, 7, 6, 5, 10, 4, 9, 3, 2, 1, 0, 8, 7, 6, 5, 10, 4, 9, 3, 2, 1, 0, 8, 7, 6, 5, 10, 4, 9, 3, 2, 1, 0, 8, 7, 6, 5, 10, 4, 9, 3, 2, 1, 0, 8, 7, 6, 5, 10, 4, 9, 3, 2, 1, 0, 8, 7, 6, 5, 22, 11, 11, 21, 10, 4, 9, 3, 2, 1, 0, 8, 7, 6, 5, 20, 11, 15, 19, 11, 14, 11, 13, 11, 12, 11, 11, 10, 4, 9, 3, 2, 1, 0, 8, 7, 6, 5, 10, 4, 9, 3, 2, 1, 0, 8, 7, 6, 5, 10, 4, 9, 3, 2, 1, 0, 8, 7, 6, 5, 10, 4, 9, 3, 2, 1, 0, 8, 7, 6, 5, 18, 11, 17, 11, 16, 11, 11, 10, 4, 9, 3, 2, 1, 0, 8, 7, 6, 5, 10, 4, 9, 3, 2, 1, 0, 8, 7, 6, 5, 10, 4, 9, 3, 2, 1, 0, 8, 7, 6, 5, 10, 4, 9, 3, 2, 1, 0, 8, 7, 6, 5, 10, 4, 9, 3, 2, 1, 0, 8, 7, 6, 5, 10, 4, 9, 3, 2, 1, 0, 8, 7, 6, 5, 10, 4, 9, 3, 2, 1, 0, 8, 7, 6, 5], [26, 23, 25, 23, 24, 23, 23, 22, 11, 11, 21, 10, 4, 9, 3, 2, 1, 0, 8, 7, 6, 5, 20, 11, 15, 19, 11, 14, 11, 13, 11, 12, 11, 11, 10, 4, 9, 3, 2, 1, 0, 8, 7, 6, 5, 10, 4, 9, 3, 2, 1, 0, 8, 7, 6, 5, 10, 4, 9, 3, 2, 1, 0, 8, 7, 6, 5, 10, 4, 9, 3, 2, 1, 0, 8, 7, 6, 5, 18, 11, 17, 11, 16, 11, 11, 10, 4, 9, 3, 2, 1, 0, 8, 7, 6, 5, 10, 4, 9, 3, 2, 1, 0, 8, 7, 6, 5, 10, 4, 9, 3, 2, 1, 0, 8, 7, 6, 5, 10, 4, 9, 3, 2, 1, 0, 8, 7, 6, 5, 10, 4, 9, 3, 2, 1, 0, 8, 7, 6, 5, 10, 4, 9, 3, 2, 1, 0, 8, 7, 6, 5, 10, 4, 9, 3, 2, 1, 0, 8, 7, 6, 5, 22, 11, 11, 21, 10, 4, 9, 3, 2, 1, 0, 8, 7, 6, 5, 20, 11, 15, 19, 11, 14, 11, 13, 11, 12, 11, 11, 10, 4, 9, 3, 2, 1, 0, 8, 7, 6, 5, 10, 4, 9, 3, 2, 1, 0, 8, 7, 6, 5, 10, 4, 9, 3, 2, 1, 0, 8, 7, 6, 5, 10, 4, 9, 3, 2, 1, 0, 8, 7, 6, 5, 18, 11, 17, 11, 16, 11, 11, 10, 4, 9, 3, 2, 1, 0, 8, 7, 6, 5, 10, 4, 9, 3, 2, 1, 0, 8, 7, 6, 5, 10, 4, 9, 3, 2, 1, 0, 8, 7, 6, 5, 10, 4, 9, 3, 2, 1, 0, 8, 7, 6, 5, 10, 4, 9, 3, 2, 1, 0, 8, 7, 6, 5, 10, 4, 9, 3, 2, 1, 0, 8, 7, 6, 5, 10, 4, 9, 3, 2, 1, 0, 8, 7, 6, 5, 22, 11, 11, 21, 10, 4, 9, 3, 2, 1, 0, 8, 7, 6, 5, 20, 11, 15, 19, 11, 14, 11, 13, 11, 12, 11, 11, 10, 4, 9, 3, 2, 1, 0, 8, 7, 6, 5, 10, 4, 9, 3, 2, 1, 0, 8, 7, 6, 5, 10, 4, 9, 3, 2, 1, 0, 8, 7, 6, 5, 10, 4, 9, 3, 2, 1, 0, 8, 7, 6, 5, 18, 11, 17, 11, 16, 11, 11, 10, 4, 9, 3, 2, 1, 0, 8, 7, 6, 5, 10, 4, 9, 3, 2, 1, 0, 8, 7, 6, 5, 10, 4, 9, 3, 2, 1, 0, 8, 7, 6, 5, 10, 4, 9, 3, 2, 1, 0, 8, 7, 6, 5, 10, 4, 9, 3, 2, 1, 0, 8, 7, 6, 5, 10, 4, 9, 3, 2, 1, 0, 8, 7, 6, 5, 10, 4, 9, 3, 2, 1, 0, 8, 7, 6, 5, 22, 11, 11, 21, 10, 4, 9, 3, 2, 1, 0, 8, 7, 6, 5, 20, 11, 15, 19, 11, 14, 11, 13, 11, 12, 11, 11, 10, 4, 9, 3, 2, 1, 0, 8, 7, 6, 5, 10, 4, 9, 3, 2, 1, 0, 8, 7, 6, 5, 10, 4, 9, 3, 2, 1, 0, 8, 7, 6, 5, 10, 4, 9, 3, 2, 1, 0, 8, 7, 6, 5, 18, 11, 17, 11, 16, 11, 11, 10, 4, 9, 3, 2, 1, 0, 8, 7, 6, 5, 10, 4, 9, 3, 2, 1, 0, 8, 7, 6, 5, 10, 4, 9, 3, 2, 1, 0, 8, 7, 6, 5, 10, 4, 9, 3, 2, 1, 0, 8, 7, 6, 5, 10, 4, 9, 3, 2, 1, 0, 8, 7, 6, 5, 10, 4, 9, 3, 2, 1, 0, 8, 7, 6, 5, 10, 4, 9, 3, 2, 1, 0, 8, 7, 6, 5], [23, 22, 11, 11, 21, 10, 4, 9, 3, 2, 1, 0, 8, 7, 6, 5, 20, 11, 15, 19, 11, 14, 11, 13, 11, 12, 11, 11, 10, 4, 9, 3, 2, 1, 0, 8, 7, 6, 5, 10, 4, 9, 3, 2, 1, 0, 8, 7, 6, 5, 10, 4, 9, 3, 2, 1, 0, 8, 7, 6, 5, 10, 4, 9, 3, 2, 1, 0, 8, 7, 6, 5, 18, 11, 17, 11, 16, 11, 11, 10, 4, 9, 3, 2, 1, 0, 8, 7, 6, 5, 10, 4, 9, 3, 2, 1, 0, 8, 7, 6, 5, 10, 4, 9, 3, 2, 1, 0, 8, 7, 6, 5, 10, 4, 9, 3, 2, 1, 0, 8, 7, 6, 5, 10, 4, 9, 3, 2, 1, 0, 8, 7, 6, 5, 10, 4, 9, 3, 2, 1, 0, 8, 7, 6, 5, 10, 4, 9, 3, 2, 1, 0, 8, 7, 6, 5], [28, 23, 23, 22, 11, 11, 21, 10, 4, 9, 3, 2, 1, 0, 8, 7, 6, 5, 20, 11, 15, 19, 11, 14, 11, 13, 11, 12, 11, 11, 10, 4, 9, 3, 2, 1, 0, 8, 7, 6, 5, 10, 4, 9, 3, 2, 1, 0, 8, 7, 6, 5, 10, 4, 9, 3, 2, 1, 0, 8, 7, 6, 5, 10, 4, 9, 3, 2, 1, 0, 8, 7, 6, 5, 18, 11, 17, 11, 16, 11, 11, 10, 4, 9, 3, 2, 1, 0, 8, 7, 6, 5, 10, 4, 9, 3, 2, 1, 0, 8, 7, 6, 5, 10, 4, 9, 3, 2, 1, 0, 8, 7, 6, 5, 10, 4, 9, 3, 2, 1, 0, 8, 7, 6, 5, 10, 4, 9, 3, 2, 1, 0, 8, 7, 6, 5, 10, 4, 9, 3, 2, 1, 0, 8, 7, 6, 5, 10, 4, 9, 3, 2, 1, 0, 8, 7, 6, 5, 22, 11, 11, 21, 10, 4, 9, 3, 2, 1, 0, 8, 7, 6, 5, 20, 11, 15, 19, 11, 14, 11, 13, 11, 12, 11, 11, 10, 4, 9, 3, 2, 1, 0, 8, 7, 6, 5, 10, 4, 9, 3, 2, 1, 0, 8, 7, 6, 5, 10, 4, 9, 3, 2, 1, 0, 8, 7, 6, 5, 10, 4, 9, 3, 2, 1, 0, 8, 7, 6, 5, 18, 11, 17, 11, 16, 11, 11, 10, 4, 9, 3, 2, 1, 0, 8, 7, 6, 5, 10, 4, 9, 3, 2, 1, 0, 8, 7, 6, 5, 10, 4, 9, 3, 2, 1, 0, 8, 7, 6, 5, 10, 4, 9, 3, 2, 1, 0, 8, 7, 6, 5, 10, 4, 9, 3, 2, 1, 0, 8, 7, 6, 5, 10, 4, 9, 3, 2, 1, 0, 8, 7, 6, 5, 10, 4, 9, 3, 2, 1, 0, 8, 7, 6, 5], [29, 23, 28, 23, 23, 22, 11, 11, 21, 10, 4, 9, 3, 2, 1, 0, 8, 7, 6, 5, 20, 11, 15, 19, 11, 14, 11, 13, 11, 12, 11, 11, 10, 4, 9, 3, 2, 1, 0, 8, 7, 6, 5, 10, 4, 9, 3, 2, 1, 0, 8, 7, 6, 5, 10, 4, 9, 3, 2, 1, 0, 8, 7, 6, 5, 10, 4, 9, 3, 2, 1, 0, 8, 7, 6, 5, 18, 11, 17, 11, 16, 11, 11, 10, 4, 9, 3, 2, 1, 0, 8, 7, 6, 5, 10, 4, 9, 3, 2, 1, 0, 8, 7, 6, 5, 10, 4, 9, 3, 2, 1, 0, 8, 7, 6, 5, 10, 4, 9, 3, 2, 1, 0, 8, 7, 6, 5, 10, 4, 9, 3, 2, 1, 0, 8, 7, 6, 5, 10, 4, 9, 3, 2, 1, 0, 8, 7, 6, 5, 10, 4, 9, 3, 2, 1, 0, 8, 7, 6, 5, 22, 11, 11, 21, 10, 4, 9, 3, 2, 1, 0, 8, 7, 6, 5, 20, 11, 15, 19, 11, 14, 11, 13, 11, 12, 11, 11, 10, 4, 9, 3, 2, 1, 0, 8, 7, 6, 5, 10, 4, 9, 3, 2, 1, 0, 8, 7, 6, 5, 10, 4, 9, 3, 2, 1, 0, 8, 7, 6, 5, 10, 4, 9, 3, 2, 1, 0, 8, 7, 6, 5, 18, 11, 17, 11, 16, 11, 11, 10, 4, 9, 3, 2, 1, 0, 8, 7, 6, 5, 10, 4, 9, 3, 2, 1, 0, 8, 7, 6, 5, 10, 4, 9, 3, 2, 1, 0, 8, 7, 6, 5, 10, 4, 9, 3, 2, 1, 0, 8, 7, 6, 5, 10, 4, 9, 3, 2, 1, 0, 8, 7, 6, 5, 10, 4, 9, 3, 2, 1, 0, 8, 7, 6, 5, 10, 4, 9, 3, 2, 1, 0, 8, 7, 6, 5, 22, 11, 11, 21, 10, 4, 9, 3, 2, 1, 0, 8, 7, 6, 5, 20, 11, 15, 19, 11, 14, 11, 13, 11, 12, 11, 11, 10, 4, 9, 3, 2, 1, 0, 8, 7, 6, 5, 10, 4, 9, 3, 2, 1, 0, 8, 7, 6, 5, 10, 4, 9, 3, 2, 1, 0, 8, 7, 6, 5, 10, 4, 9, 3, 2, 1, 0, 8, 7, 6, 5, 18, 11, 17, 11, 16, 11, 11, 10, 4, 9, 3, 2, 1, 0, 8, 7, 6, 5, 10, 4, 9, 3, 2, 1, 0, 8, 7, 6, 5, 10, 4, 9, 3, 2, 1, 0, 8, 7, 6, 5, 10, 4, 9, 3, 2, 1, 0, 8, 7, 6, 5, 10, 4, 9, 3, 2, 1, 0, 8, 7, 6, 5, 10, 4, 9, 3, 2, 1, 0, 8, 7, 6, 5, 10, 4, 9, 3, 2, 1, 0, 8, 7, 6, 5], [30, 23, 29, 23, 28, 23, 23, 22, 11, 11, 21, 10, 4, 9, 3, 2, 1, 0, 8, 7, 6, 5, 20, 11, 15, 19, 11, 14, 11, 13, 11, 12, 11, 11, 10, 4, 9, 3, 2, 1, 0, 8, 7, 6, 5, 10, 4, 9, 3, 2, 1, 0, 8, 7, 6, 5, 10, 4, 9, 3, 2, 1, 0, 8, 7, 6, 5, 10, 4, 9, 3, 2, 1, 0, 8, 7, 6, 5, 18, 11, 17, 11, 16, 11, 11, 10, 4, 9, 3, 2, 1, 0, 8, 7, 6, 5, 10, 4, 9, 3, 2, 1, 0, 8, 7, 6, 5, 10, 4, 9, 3, 2, 1, 0, 8, 7, 6, 5, 10, 4, 9, 3, 2, 1, 0, 8, 7, 6, 5, 10, 4, 9, 3, 2, 1, 0, 8, 7, 6, 5, 10, 4, 9, 3, 2, 1, 0, 8, 7, 6, 5, 10, 4, 9, 3, 2, 1, 0, 8, 7, 6, 5, 22, 11, 11, 21, 10, 4, 9, 3, 2, 1, 0, 8, 7, 6, 5, 20, 11, 15, 19, 11, 14, 11, 13, 11, 12, 11, 11, 10, 4, 9, 3, 2, 1, 0, 8, 7, 6, 5, 10, 4, 9, 3, 2, 1, 0, 8, 7, 6, 5, 10, 4, 9, 3, 2, 1, 0, 8, 7, 6, 5, 10, 4, 9, 3, 2, 1, 0, 8, 7, 6, 5, 18, 11, 17, 11, 16, 11, 11, 10, 4, 9, 3, 2, 1, 0, 8, 7, 6, 5, 10, 4, 9, 3, 2, 1, 0, 8, 7, 6, 5, 10, 4, 9, 3, 2, 1, 0, 8, 7, 6, 5, 10, 4, 9, 3, 2, 1, 0, 8, 7, 6, 5, 10, 4, 9, 3, 2, 1, 0, 8, 7, 6, 5, 10, 4, 9, 3, 2, 1, 0, 8, 7, 6, 5, 10, 4, 9, 3, 2, 1, 0, 8, 7, 6, 5, 22, 11, 11, 21, 10, 4, 9, 3, 2, 1, 0, 8, 7, 6, 5, 20, 11, 15, 19, 11, 14, 11, 13, 11, 12, 11, 11, 10, 4, 9, 3, 2, 1, 0, 8, 7, 6, 5, 10, 4, 9, 3, 2, 1, 0, 8, 7, 6, 5, 10, 4, 9, 3, 2, 1, 0, 8, 7, 6, 5, 10, 4, 9, 3, 2, 1, 0, 8, 7, 6, 5, 18, 11, 17, 11, 16, 11, 11, 10, 4, 9, 3, 2, 1, 0, 8, 7, 6, 5, 10, 4, 9, 3, 2, 1, 0, 8, 7, 6, 5, 10, 4, 9, 3, 2, 1, 0, 8, 7, 6, 5, 10, 4, 9, 3, 2, 1, 0, 8, 7, 6, 5, 10, 4, 9, 3, 2, 1, 0, 8, 7, 6, 5, 10, 4, 9, 3, 2, 1, 0, 8, 7, 6, 5, 10, 4, 9, 3, 2, 1, 0, 8, 7, 6, 5, 22, 11, 11, 21, 10, 4, 9, 3, 2, 1, 0, 8, 7, 6, 5, 20, 11, 15, 19, 11, 14, 11, 13, 11, 12, 11, 11, 10, 4, 9, 3, 2, 1, 0, 8, 7, 6, 5, 10, 4, 9, 3, 2, 1, 0, 8, 7, 6, 5, 10, 4, 9, 3, 2, 1, 0, 8, 7, 6, 5, 10, 4, 9, 3, 2, 1, 0, 8, 7, 6, 5, 18, 11, 17, 11, 16, 11, 11, 10, 4, 9, 3, 2, 1, 0, 8, 7, 6, 5, 10, 4, 9, 3, 2, 1, 0, 8, 7, 6, 5, 10, 4, 9, 3, 2, 1, 0, 8, 7, 6, 5, 10, 4, 9, 3, 2, 1, 0, 8, 7, 6, 5, 10, 4, 9, 3, 2, 1, 0, 8, 7, 6, 5, 10, 4, 9, 3, 2, 1, 0, 8, 7, 6, 5, 10, 4, 9, 3, 2, 1, 0, 8, 7, 6, 5], [31, 23, 30, 23, 29, 23, 28, 23, 23, 22, 11, 11, 21, 10, 4, 9, 3, 2, 1, 0, 8, 7, 6, 5, 20, 11, 15, 19, 11, 14, 11, 13, 11, 12, 11, 11, 10, 4, 9, 3, 2, 1, 0, 8, 7, 6, 5, 10, 4, 9, 3, 2, 1, 0, 8, 7, 6, 5, 10, 4, 9, 3, 2, 1, 0, 8, 7, 6, 5, 10, 4, 9, 3, 2, 1, 0, 8, 7, 6, 5, 18, 11, 17, 11, 16, 11, 11, 10, 4, 9, 3, 2, 1, 0, 8, 7, 6, 5, 10, 4, 9, 3, 2, 1, 0, 8, 7, 6, 5, 10, 4, 9, 3, 2, 1, 0, 8, 7, 6, 5, 10, 4, 9, 3, 2, 1, 0, 8, 7, 6, 5, 10, 4, 9, 3, 2, 1, 0, 8, 7, 6, 5, 10, 4, 9, 3, 2, 1, 0, 8, 7, 6, 5, 10, 4, 9, 3, 2, 1, 0, 8, 7, 6, 5, 22, 11, 11, 21, 10, 4, 9, 3, 2, 1, 0, 8, 7, 6, 5, 20, 11, 15, 19, 11, 14, 11, 13, 11, 12, 11, 11, 10, 4, 9, 3, 2, 1, 0, 8, 7, 6, 5, 10, 4, 9, 3, 2, 1, 0, 8, 7, 6, 5, 10, 4, 9, 3, 2, 1, 0, 8, 7, 6, 5, 10, 4, 9, 3, 2, 1, 0, 8, 7, 6, 5, 18, 11, 17, 11, 16, 11, 11, 10, 4, 9, 3, 2, 1, 0, 8, 7, 6, 5, 10, 4, 9, 3, 2, 1, 0, 8, 7, 6, 5, 10, 4, 9, 3, 2, 1, 0, 8, 7, 6, 5, 10, 4, 9, 3, 2, 1, 0, 8, 7, 6, 5, 10, 4, 9, 3, 2, 1, 0, 8, 7, 6, 5, 10, 4, 9, 3, 2, 1, 0, 8, 7, 6, 5, 10, 4, 9, 3, 2, 1, 0, 8, 7, 6, 5, 22, 11, 11, 21, 10, 4, 9, 3, 2, 1, 0, 8, 7, 6, 5, 20, 11, 15, 19, 11, 14, 11, 13, 11, 12, 11, 11, 10, 4, 9, 3, 2, 1, 0, 8, 7, 6, 5, 10, 4, 9, 3, 2, 1, 0, 8, 7, 6, 5, 10, 4, 9, 3, 2, 1, 0, 8, 7, 6, 5, 10, 4, 9, 3, 2, 1, 0, 8, 7, 6, 5, 18, 11, 17, 11, 16, 11, 11, 10, 4, 9, 3, 2, 1, 0, 8, 7, 6, 5, 10, 4, 9, 3, 2, 1, 0, 8, 7, 6, 5, 10, 4, 9, 3, 2, 1, 0, 8, 7, 6, 5, 10, 4, 9, 3, 2, 1, 0, 8, 7, 6, 5, 10, 4, 9, 3, 2, 1, 0, 8, 7, 6, 5, 10, 4, 9, 3, 2, 1, 0, 8, 7, 6, 5, 10, 4, 9, 3, 2, 1, 0, 8, 7, 6, 5, 22, 11, 11, 21, 10, 4, 9, 3, 2, 1, 0, 8, 7, 6, 5, 20, 11, 15, 19, 11, 14, 11, 13, 11, 12, 11, 11, 10, 4, 9, 3, 2, 1, 0, 8, 7, 6, 5, 10, 4, 9, 3, 2, 1, 0, 8, 7, 6, 5, 10, 4, 9, 3, 2, 1, 0, 8, 7, 6, 5, 10, 4, 9, 3, 2, 1, 0, 8, 7, 6, 5, 18, 11, 17, 11, 16, 11, 11, 10, 4, 9, 3, 2, 1, 0, 8, 7, 6, 5, 10, 4, 9, 3, 2, 1, 0, 8, 7, 6, 5, 10, 4, 9, 3, 2, 1, 0, 8, 7, 6, 5, 10, 4, 9, 3, 2, 1, 0, 8, 7, 6, 5, 10, 4, 9, 3, 2, 1, 0, 8, 7, 6, 5, 10, 4, 9, 3, 2, 1, 0, 8, 7, 6, 5, 10, 4, 9, 3, 2, 1, 0, 8, 7, 6, 5, 22, 11, 11, 21, 10, 4, 9, 3, 2, 1, 0, 8, 7, 6, 5, 20, 11, 15, 19, 11, 14, 11, 13, 11, 12, 11, 11, 10, 4, 9, 3, 2, 1, 0, 8, 7, 6, 5, 10, 4, 9, 3, 2, 1, 0, 8, 7, 6, 5, 10, 4, 9, 3, 2, 1, 0, 8, 7, 6, 5, 10, 4, 9, 3, 2, 1, 0, 8, 7, 6, 5, 18, 11, 17, 11, 16, 11, 11, 10, 4, 9, 3, 2, 1, 0, 8, 7, 6, 5, 10, 4, 9, 3, 2, 1, 0, 8, 7, 6, 5, 10, 4, 9, 3, 2, 1, 0, 8, 7, 6, 5, 10, 4, 9, 3, 2, 1, 0, 8, 7, 6, 5, 10, 4, 9, 3, 2, 1, 0, 8, 7, 6, 5, 10, 4, 9, 3, 2, 1, 0, 8, 7, 6, 5, 10, 4, 9, 3, 2, 1, 0, 8, 7, 6, 5], [27, 32, 23, 26, 23, 25, 23, 24, 23, 23, 22, 11, 11, 21, 10, 4, 9, 3, 2, 1, 0, 8, 7, 6, 5, 20, 11, 15, 19, 11, 14, 11, 13, 11, 12, 11, 11, 10, 4, 9, 3, 2, 1, 0, 8, 7, 6, 5, 10, 4, 9, 3, 2, 1, 0, 8, 7, 6, 5, 10, 4, 9, 3, 2, 1, 0, 8, 7, 6, 5, 10, 4, 9, 3, 2, 1, 0, 8, 7, 6, 5, 18, 11, 17, 11, 16, 11, 11, 10, 4, 9, 3, 2, 1, 0, 8, 7, 6, 5, 10, 4, 9, 3, 2, 1, 0, 8, 7, 6, 5, 10, 4, 9, 3, 2, 1, 0, 8, 7, 6, 5, 10, 4, 9, 3, 2, 1, 0, 8, 7, 6, 5, 10, 4, 9, 3, 2, 1, 0, 8, 7, 6, 5, 10, 4, 9, 3, 2, 1, 0, 8, 7, 6, 5, 10, 4, 9, 3, 2, 1, 0, 8, 7, 6, 5, 22, 11, 11, 21, 10, 4, 9, 3, 2, 1, 0, 8, 7, 6, 5, 20, 11, 15, 19, 11, 14, 11, 13, 11, 12, 11, 11, 10, 4, 9, 3, 2, 1, 0, 8, 7, 6, 5, 10, 4, 9, 3, 2, 1, 0, 8, 7, 6, 5, 10, 4, 9, 3, 2, 1, 0, 8, 7, 6, 5, 10, 4, 9, 3, 2, 1, 0, 8, 7, 6, 5, 18, 11, 17, 11, 16, 11, 11, 10, 4, 9, 3, 2, 1, 0, 8, 7, 6, 5, 10, 4, 9, 3, 2, 1, 0, 8, 7, 6, 5, 10, 4, 9, 3, 2, 1, 0, 8, 7, 6, 5, 10, 4, 9, 3, 2, 1, 0, 8, 7, 6, 5, 10, 4, 9, 3, 2, 1, 0, 8, 7, 6, 5, 10, 4, 9, 3, 2, 1, 0, 8, 7, 6, 5, 10, 4, 9, 3, 2, 1, 0, 8, 7, 6, 5, 22, 11, 11, 21, 10, 4, 9, 3, 2, 1, 0, 8, 7, 6, 5, 20, 11, 15, 19, 11, 14, 11, 13, 11, 12, 11, 11, 10, 4, 9, 3, 2, 1, 0, 8, 7, 6, 5, 10, 4, 9, 3, 2, 1, 0, 8, 7, 6, 5, 10, 4, 9, 3, 2, 1, 0, 8, 7, 6, 5, 10, 4, 9, 3, 2, 1, 0, 8, 7, 6, 5, 18, 11, 17, 11, 16, 11, 11, 10, 4, 9, 3, 2, 1, 0, 8, 7, 6, 5, 10, 4, 9, 3, 2, 1, 0, 8, 7, 6, 5, 10, 4, 9, 3, 2, 1, 0, 8, 7, 6, 5, 10, 4, 9, 3, 2, 1, 0, 8, 7, 6, 5, 10, 4, 9, 3, 2, 1, 0, 8, 7, 6, 5, 10, 4, 9, 3, 2, 1, 0, 8, 7, 6, 5, 10, 4, 9, 3, 2, 1, 0, 8, 7, 6, 5, 22, 11, 11, 21, 10, 4, 9, 3, 2, 1, 0, 8, 7, 6, 5, 20, 11, 15, 19, 11, 14, 11, 13, 11, 12, 11, 11, 10, 4, 9, 3, 2, 1, 0, 8, 7, 6, 5, 10, 4, 9, 3, 2, 1, 0, 8, 7, 6, 5, 10, 4, 9, 3, 2, 1, 0, 8, 7, 6, 5, 10, 4, 9, 3, 2, 1, 0, 8, 7, 6, 5, 18, 11, 17, 11, 16, 11, 11, 10, 4, 9, 3, 2, 1, 0, 8, 7, 6, 5, 10, 4, 9, 3, 2, 1, 0, 8, 7, 6, 5, 10, 4, 9, 3, 2, 1, 0, 8, 7, 6, 5, 10, 4, 9, 3, 2, 1, 0, 8, 7, 6, 5, 10, 4, 9, 3, 2, 1, 0, 8, 7, 6, 5, 10, 4, 9, 3, 2, 1, 0, 8, 7, 6, 5, 10, 4, 9, 3, 2, 1, 0, 8, 7, 6, 5, 31, 23, 30, 23, 29, 23, 28, 23, 23, 22, 11, 11, 21, 10, 4, 9, 3, 2, 1, 0, 8, 7, 6, 5, 20, 11, 15, 19, 11, 14, 11, 13, 11, 12, 11, 11, 10, 4, 9, 3, 2, 1, 0, 8, 7, 6, 5, 10, 4, 9, 3, 2, 1, 0, 8, 7, 6, 5, 10, 4, 9, 3, 2, 1, 0, 8, 7, 6, 5, 10, 4, 9, 3, 2, 1, 0, 8, 7, 6, 5, 18, 11, 17, 11, 16, 11, 11, 10, 4, 9, 3, 2, 1, 0, 8, 7, 6, 5, 10, 4, 9, 3, 2, 1, 0, 8, 7, 6, 5, 10, 4, 9, 3, 2, 1, 0, 8, 7, 6, 5, 10, 4, 9, 3, 2, 1, 0, 8, 7, 6, 5, 10, 4, 9, 3, 2, 1, 0, 8, 7, 6, 5, 10, 4, 9, 3, 2, 1, 0, 8, 7, 6, 5, 10, 4, 9, 3, 2, 1, 0, 8, 7, 6, 5, 22, 11, 11, 21, 10, 4, 9, 3, 2, 1, 0, 8, 7, 6, 5, 20, 11, 15, 19, 11, 14, 11, 13, 11, 12, 11, 11, 10, 4, 9, 3, 2, 1, 0, 8, 7, 6, 5, 10, 4, 9, 3, 2, 1, 0, 8, 7, 6, 5, 10, 4, 9, 3, 2, 1, 0, 8, 7, 6, 5, 10, 4, 9, 3, 2, 1, 0, 8, 7, 6, 5, 18, 11, 17, 11, 16, 11, 11, 10, 4, 9, 3, 2, 1, 0, 8, 7, 6, 5, 10, 4, 9, 3, 2, 1, 0, 8, 7, 6, 5, 10, 4, 9, 3, 2, 1, 0, 8, 7, 6, 5, 10, 4, 9, 3, 2, 1, 0, 8, 7, 6, 5, 10, 4, 9, 3, 2, 1, 0, 8, 7, 6, 5, 10, 4, 9, 3, 2, 1, 0, 8, 7, 6, 5, 10, 4, 9, 3, 2, 1, 0, 8, 7, 6, 5, 22, 11, 11, 21, 10, 4, 9, 3, 2, 1, 0, 8, 7, 6, 5, 20, 11, 15, 19, 11, 14, 11, 13, 11, 12, 11, 11, 10, 4, 9, 3, 2, 1, 0, 8, 7, 6, 5, 10, 4, 9, 3, 2, 1, 0, 8, 7, 6, 5, 10, 4, 9, 3, 2, 1, 0, 8, 7, 6, 5, 10, 4, 9, 3, 2, 1, 0, 8, 7, 6, 5, 18, 11, 17, 11, 16, 11, 11, 10, 4, 9, 3, 2, 1, 0, 8, 7, 6, 5, 10, 4, 9, 3, 2, 1, 0, 8, 7, 6, 5, 10, 4, 9, 3, 2, 1, 0, 8, 7, 6, 5, 10, 4, 9, 3, 2, 1, 0, 8, 7, 6, 5, 10, 4, 9, 3, 2, 1, 0, 8, 7, 6, 5, 10, 4, 9, 3, 2, 1, 0, 8, 7, 6, 5, 10, 4, 9, 3, 2, 1, 0, 8, 7, 6, 5, 22, 11, 11, 21, 10, 4, 9, 3, 2, 1, 0, 8, 7, 6, 5, 20, 11, 15, 19, 11, 14, 11, 13, 11, 12, 11, 11, 10, 4, 9, 3, 2, 1, 0, 8, 7, 6, 5, 10, 4, 9, 3, 2, 1, 0, 8, 7, 6, 5, 10, 4, 9, 3, 2, 1, 0, 8, 7, 6, 5, 10, 4, 9, 3, 2, 1, 0, 8, 7, 6, 5, 18, 11, 17, 11, 16, 11, 11, 10, 4, 9, 3, 2, 1, 0, 8, 7, 6, 5, 10, 4, 9, 3, 2, 1, 0, 8, 7, 6, 5, 10, 4, 9, 3, 2, 1, 0, 8, 7, 6, 5, 10, 4, 9, 3, 2, 1, 0, 8, 7, 6, 5, 10, 4, 9, 3, 2, 1, 0, 8, 7, 6, 5, 10, 4, 9, 3, 2, 1, 0, 8, 7, 6, 5, 10, 4, 9, 3, 2, 1, 0, 8, 7, 6, 5, 22, 11, 11, 21, 10, 4, 9, 3, 2, 1, 0, 8, 7, 6, 5, 20, 11, 15, 19, 11, 14, 11, 13, 11, 12, 11, 11, 10, 4, 9, 3, 2, 1, 0, 8, 7, 6, 5, 10, 4, 9, 3, 2, 1, 0, 8, 7, 6, 5, 10, 4, 9, 3, 2, 1, 0, 8, 7, 6, 5, 10, 4, 9, 3, 2, 1, 0, 8, 7, 6, 5, 18, 11, 17, 11, 16, 11, 11, 10, 4, 9, 3, 2, 1, 0, 8, 7, 6, 5, 10, 4, 9, 3, 2, 1, 0, 8, 7, 6, 5, 10, 4, 9, 3, 2, 1, 0, 8, 7, 6, 5, 10, 4, 9, 3, 2, 1, 0, 8, 7, 6, 5, 10, 4, 9, 3, 2, 1, 0, 8, 7, 6, 5, 10, 4, 9, 3, 2, 1, 0, 8, 7, 6, 5, 10, 4, 9, 3, 2, 1, 0, 8, 7, 6, 5, 22, 11, 11, 21, 10, 4, 9, 3, 2, 1, 0, 8, 7, 6, 5, 20, 11, 15, 19, 11, 14, 11, 13, 11, 12, 11, 11, 10, 4, 9, 3, 2, 1, 0, 8, 7, 6, 5, 10, 4, 9, 3, 2, 1, 0, 8, 7, 6, 5, 10, 4, 9, 3, 2, 1, 0, 8, 7, 6, 5, 10, 4, 9, 3, 2, 1, 0, 8, 7, 6, 5, 18, 11, 17, 11, 16, 11, 11, 10, 4, 9, 3, 2, 1, 0, 8, 7, 6, 5, 10, 4, 9, 3, 2, 1, 0, 8, 7, 6, 5, 10, 4, 9, 3, 2, 1, 0, 8, 7, 6, 5, 10, 4, 9, 3, 2, 1, 0, 8, 7, 6, 5, 10, 4, 9, 3, 2, 1, 0, 8, 7, 6, 5, 10, 4, 9, 3, 2, 1, 0, 8, 7, 6, 5, 10, 4, 9, 3, 2, 1, 0, 8, 7, 6, 5], [33, 23, 27, 32, 23, 26, 23, 25, 23, 24, 23, 23, 22, 11, 11, 21, 10, 4, 9, 3, 2, 1, 0, 8, 7, 6, 5, 20, 11, 15, 19, 11, 14, 11, 13, 11, 12, 11, 11, 10, 4, 9, 3, 2, 1, 0, 8, 7, 6, 5, 10, 4, 9, 3, 2, 1, 0, 8, 7, 6, 5, 10, 4, 9, 3, 2, 1, 0, 8, 7, 6, 5, 10, 4, 9, 3, 2, 1, 0, 8, 7, 6, 5, 18, 11, 17, 11, 16, 11, 11, 10, 4, 9, 3, 2, 1, 0, 8, 7, 6, 5, 10, 4, 9, 3, 2, 1, 0, 8, 7, 6, 5, 10, 4, 9, 3, 2, 1, 0, 8, 7, 6, 5, 10, 4, 9, 3, 2, 1, 0, 8, 7, 6, 5, 10, 4, 9, 3, 2, 1, 0, 8, 7, 6, 5, 10, 4, 9, 3, 2, 1, 0, 8, 7, 6, 5, 10, 4, 9, 3, 2, 1, 0, 8, 7, 6, 5, 22, 11, 11, 21, 10, 4, 9, 3, 2, 1, 0, 8, 7, 6, 5, 20, 11, 15, 19, 11, 14, 11, 13, 11, 12, 11, 11, 10, 4, 9, 3, 2, 1, 0, 8, 7, 6, 5, 10, 4, 9, 3, 2, 1, 0, 8, 7, 6, 5, 10, 4, 9, 3, 2, 1, 0, 8, 7, 6, 5, 10, 4, 9, 3, 2, 1, 0, 8, 7, 6, 5, 18, 11, 17, 11, 16, 11, 11, 10, 4, 9, 3, 2, 1, 0, 8, 7, 6, 5, 10, 4, 9, 3, 2, 1, 0, 8, 7, 6, 5, 10, 4, 9, 3, 2, 1, 0, 8, 7, 6, 5, 10, 4, 9, 3, 2, 1, 0, 8, 7, 6, 5, 10, 4, 9, 3, 2, 1, 0, 8, 7, 6, 5, 10, 4, 9, 3, 2, 1, 0, 8, 7, 6, 5, 10, 4, 9, 3, 2, 1, 0, 8, 7, 6, 5, 22, 11, 11, 21, 10, 4, 9, 3, 2, 1, 0, 8, 7, 6, 5, 20, 11, 15, 19, 11, 14, 11, 13, 11, 12, 11, 11, 10, 4, 9, 3, 2, 1, 0, 8, 7, 6, 5, 10, 4, 9, 3, 2, 1, 0, 8, 7, 6, 5, 10, 4, 9, 3, 2, 1, 0, 8, 7, 6, 5, 10, 4, 9, 3, 2, 1, 0, 8, 7, 6, 5, 18, 11, 17, 11, 16, 11, 11, 10, 4, 9, 3, 2, 1, 0, 8, 7, 6, 5, 10, 4, 9, 3, 2, 1, 0, 8, 7, 6, 5, 10, 4, 9, 3, 2, 1, 0, 8, 7, 6, 5, 10, 4, 9, 3, 2, 1, 0, 8, 7, 6, 5, 10, 4, 9, 3, 2, 1, 0, 8, 7, 6, 5, 10, 4, 9, 3, 2, 1, 0, 8, 7, 6, 5, 10, 4, 9, 3, 2, 1, 0, 8, 7, 6, 5, 22, 11, 11, 21, 10, 4, 9, 3, 2, 1, 0, 8, 7, 6, 5, 20, 11, 15, 19, 11, 14, 11, 13, 11, 12, 11, 11, 10, 4, 9, 3, 2, 1, 0, 8, 7, 6, 5, 10, 4, 9, 3, 2, 1, 0, 8, 7, 6, 5, 10, 4, 9, 3, 2, 1, 0, 8, 7, 6, 5, 10, 4, 9, 3, 2, 1, 0, 8, 7, 6, 5, 18, 11, 17, 11, 16, 11, 11, 10, 4, 9, 3, 2, 1, 0, 8, 7, 6, 5, 10, 4, 9, 3, 2, 1, 0, 8, 7, 6, 5, 10, 4, 9, 3, 2, 1, 0, 8, 7, 6, 5, 10, 4, 9, 3, 2, 1, 0, 8, 7, 6, 5, 10, 4, 9, 3, 2, 1, 0, 8, 7, 6, 5, 10, 4, 9, 3, 2, 1, 0, 8, 7, 6, 5, 10, 4, 9, 3, 2, 1, 0, 8, 7, 6, 5, 31, 23, 30, 23, 29, 23, 28, 23, 23, 22, 11, 11, 21, 10, 4, 9, 3, 2, 1, 0, 8, 7, 6, 5, 20, 11, 15, 19, 11, 14, 11, 13, 11, 12, 11, 11, 10, 4, 9, 3, 2, 1, 0, 8, 7, 6, 5, 10, 4, 9, 3, 2, 1, 0, 8, 7, 6, 5, 10, 4, 9, 3, 2, 1, 0, 8, 7, 6, 5, 10, 4, 9, 3, 2, 1, 0, 8, 7, 6, 5, 18, 11, 17, 11, 16, 11, 11, 10, 4, 9, 3, 2, 1, 0, 8, 7, 6, 5, 10, 4, 9, 3, 2, 1, 0, 8, 7, 6, 5, 10, 4, 9, 3, 2, 1, 0, 8, 7, 6, 5, 10, 4, 9, 3, 2, 1, 0, 8, 7, 6, 5, 10, 4, 9, 3, 2, 1, 0, 8, 7, 6, 5, 10, 4, 9, 3, 2, 1, 0, 8, 7, 6, 5, 10, 4, 9, 3, 2, 1, 0, 8, 7, 6, 5, 22, 11, 11, 21, 10, 4, 9, 3, 2, 1, 0, 8, 7, 6, 5, 20, 11, 15, 19, 11, 14, 11, 13, 11, 12, 11, 11, 10, 4, 9, 3, 2, 1, 0, 8, 7, 6, 5, 10, 4, 9, 3, 2, 1, 0, 8, 7, 6, 5, 10, 4, 9, 3, 2, 1, 0, 8, 7, 6, 5, 10, 4, 9, 3, 2, 1, 0, 8, 7, 6, 5, 18, 11, 17, 11, 16, 11, 11, 10, 4, 9, 3, 2, 1, 0, 8, 7, 6, 5, 10, 4, 9, 3, 2, 1, 0, 8, 7, 6, 5, 10, 4, 9, 3, 2, 1, 0, 8, 7, 6, 5, 10, 4, 9, 3, 2, 1, 0, 8, 7, 6, 5, 10, 4, 9, 3, 2, 1, 0, 8, 7, 6, 5, 10, 4, 9, 3, 2, 1, 0, 8, 7, 6, 5, 10, 4, 9, 3, 2, 1, 0, 8, 7, 6, 5, 22, 11, 11, 21, 10, 4, 9, 3, 2, 1, 0, 8, 7, 6, 5, 20, 11, 15, 19, 11, 14, 11, 13, 11, 12, 11, 11, 10, 4, 9, 3, 2, 1, 0, 8, 7, 6, 5, 10, 4, 9, 3, 2, 1, 0, 8, 7, 6, 5, 10, 4, 9, 3, 2, 1, 0, 8, 7, 6, 5, 10, 4, 9, 3, 2, 1, 0, 8, 7, 6, 5, 18, 11, 17, 11, 16, 11, 11, 10, 4, 9, 3, 2, 1, 0, 8, 7, 6, 5, 10, 4, 9, 3, 2, 1, 0, 8, 7, 6, 5, 10, 4, 9, 3, 2, 1, 0, 8, 7, 6, 5, 10, 4, 9, 3, 2, 1, 0, 8, 7, 6, 5, 10, 4, 9, 3, 2, 1, 0, 8, 7, 6, 5, 10, 4, 9, 3, 2, 1, 0, 8, 7, 6, 5, 10, 4, 9, 3, 2, 1, 0, 8, 7, 6, 5, 22, 11, 11, 21, 10, 4, 9, 3, 2, 1, 0, 8, 7, 6, 5, 20, 11, 15, 19, 11, 14, 11, 13, 11, 12, 11, 11, 10, 4, 9, 3, 2, 1, 0, 8, 7, 6, 5, 10, 4, 9, 3, 2, 1, 0, 8, 7, 6, 5, 10, 4, 9, 3, 2, 1, 0, 8, 7, 6, 5, 10, 4, 9, 3, 2, 1, 0, 8, 7, 6, 5, 18, 11, 17, 11, 16, 11, 11, 10, 4, 9, 3, 2, 1, 0, 8, 7, 6, 5, 10, 4, 9, 3, 2, 1, 0, 8, 7, 6, 5, 10, 4, 9, 3, 2, 1, 0, 8, 7, 6, 5, 10, 4, 9, 3, 2, 1, 0, 8, 7, 6, 5, 10, 4, 9, 3, 2, 1, 0, 8, 7, 6, 5, 10, 4, 9, 3, 2, 1, 0, 8, 7, 6, 5, 10, 4, 9, 3, 2, 1, 0, 8, 7, 6, 5, 22, 11, 11, 21, 10, 4, 9, 3, 2, 1, 0, 8, 7, 6, 5, 20, 11, 15, 19, 11, 14, 11, 13, 11, 12, 11, 11, 10, 4, 9, 3, 2, 1, 0, 8, 7, 6, 5, 10, 4, 9, 3, 2, 1, 0, 8, 7, 6, 5, 10, 4, 9, 3, 2, 1, 0, 8, 7, 6, 5, 10, 4, 9, 3, 2, 1, 0, 8, 7, 6, 5, 18, 11, 17, 11, 16, 11, 11, 10, 4, 9, 3, 2, 1, 0, 8, 7, 6, 5, 10, 4, 9, 3, 2, 1, 0, 8, 7, 6, 5, 10, 4, 9, 3, 2, 1, 0, 8, 7, 6, 5, 10, 4, 9, 3, 2, 1, 0, 8, 7, 6, 5, 10, 4, 9, 3, 2, 1, 0, 8, 7, 6, 5, 10, 4, 9, 3, 2, 1, 0, 8, 7, 6, 5, 10, 4, 9, 3, 2, 1, 0, 8, 7, 6, 5, 22, 11, 11, 21, 10, 4, 9, 3, 2, 1, 0, 8, 7, 6, 5, 20, 11, 15, 19, 11, 14, 11, 13, 11, 12, 11, 11, 10, 4, 9, 3, 2, 1, 0, 8, 7, 6, 5, 10, 4, 9, 3, 2, 1, 0, 8, 7, 6, 5, 10, 4, 9, 3, 2, 1, 0, 8, 7, 6, 5, 10, 4, 9, 3, 2, 1, 0, 8, 7, 6, 5, 18, 11, 17, 11, 16, 11, 11, 10, 4, 9, 3, 2, 1, 0, 8, 7, 6, 5, 10, 4, 9, 3, 2, 1, 0, 8, 7, 6, 5, 10, 4, 9, 3, 2, 1, 0, 8, 7, 6, 5, 10, 4, 9, 3, 2, 1, 0, 8, 7, 6, 5, 10, 4, 9, 3, 2, 1, 0, 8, 7, 6, 5, 10, 4, 9, 3, 2, 1, 0, 8, 7, 6, 5, 10, 4, 9, 3, 2, 1, 0, 8, 7, 6, 5, 22, 11, 11, 21, 10, 4, 9, 3, 2, 1, 0, 8, 7, 6, 5, 20, 11, 15, 19, 11, 14, 11, 13, 11, 12, 11, 11, 10, 4, 9, 3, 2, 1, 0, 8, 7, 6, 5, 10, 4, 9, 3, 2, 1, 0, 8, 7, 6, 5, 10, 4, 9, 3, 2, 1, 0, 8, 7, 6, 5, 10, 4, 9, 3, 2, 1, 0, 8, 7, 6, 5, 18, 11, 17, 11, 16, 11, 11, 10, 4, 9, 3, 2, 1, 0, 8, 7, 6, 5, 10, 4, 9, 3, 2, 1, 0, 8, 7, 6, 5, 10, 4, 9, 3, 2, 1, 0, 8, 7, 6, 5, 10, 4, 9, 3, 2, 1, 0, 8, 7, 6, 5, 10, 4, 9, 3, 2, 1, 0, 8, 7, 6, 5, 10, 4, 9, 3, 2, 1, 0, 8, 7, 6, 5, 10, 4, 9, 3, 2, 1, 0, 8, 7, 6, 5], [23, 34, 22, 11, 11, 21, 10, 4, 9, 3, 2, 1, 0, 8, 7, 6, 5, 20, 11, 15, 19, 11, 14, 11, 13, 11, 12, 11, 11, 10, 4, 9, 3, 2, 1, 0, 8, 7, 6, 5, 10, 4, 9, 3, 2, 1, 0, 8, 7, 6, 5, 10, 4, 9, 3, 2, 1, 0, 8, 7, 6, 5, 10, 4, 9, 3, 2, 1, 0, 8, 7, 6, 5, 18, 11, 17, 11, 16, 11, 11, 10, 4, 9, 3, 2, 1, 0, 8, 7, 6, 5, 10, 4, 9, 3, 2, 1, 0, 8, 7, 6, 5, 10, 4, 9, 3, 2, 1, 0, 8, 7, 6, 5, 10, 4, 9, 3, 2, 1, 0, 8, 7, 6, 5, 10, 4, 9, 3, 2, 1, 0, 8, 7, 6, 5, 10, 4, 9, 3, 2, 1, 0, 8, 7, 6, 5, 10, 4, 9, 3, 2, 1, 0, 8, 7, 6, 5, 33, 23, 27, 32, 23, 26, 23, 25, 23, 24, 23, 23, 22, 11, 11, 21, 10, 4, 9, 3, 2, 1, 0, 8, 7, 6, 5, 20, 11, 15, 19, 11, 14, 11, 13, 11, 12, 11, 11, 10, 4, 9, 3, 2, 1, 0, 8, 7, 6, 5, 10, 4, 9, 3, 2, 1, 0, 8, 7, 6, 5, 10, 4, 9, 3, 2, 1, 0, 8, 7, 6, 5, 10, 4, 9, 3, 2, 1, 0, 8, 7, 6, 5, 18, 11, 17, 11, 16, 11, 11, 10, 4, 9, 3, 2, 1, 0, 8, 7, 6, 5, 10, 4, 9, 3, 2, 1, 0, 8, 7, 6, 5, 10, 4, 9, 3, 2, 1, 0, 8, 7, 6, 5, 10, 4, 9, 3, 2, 1, 0, 8, 7, 6, 5, 10, 4, 9, 3, 2, 1, 0, 8, 7, 6, 5, 10, 4, 9, 3, 2, 1, 0, 8, 7, 6, 5, 10, 4, 9, 3, 2, 1, 0, 8, 7, 6, 5, 22, 11, 11, 21, 10, 4, 9, 3, 2, 1, 0, 8, 7, 6, 5, 20, 11, 15, 19, 11, 14, 11, 13, 11, 12, 11, 11, 10, 4, 9, 3, 2, 1, 0, 8, 7, 6, 5, 10, 4, 9, 3, 2, 1, 0, 8, 7, 6, 5, 10, 4, 9, 3, 2, 1, 0, 8, 7, 6, 5, 10, 4, 9, 3, 2, 1, 0, 8, 7, 6, 5, 18, 11, 17, 11, 16, 11, 11, 10, 4, 9, 3, 2, 1, 0, 8, 7, 6, 5, 10, 4, 9, 3, 2, 1, 0, 8, 7, 6, 5, 10, 4, 9, 3, 2, 1, 0, 8, 7, 6, 5, 10, 4, 9, 3, 2, 1, 0, 8, 7, 6, 5, 10, 4, 9, 3, 2, 1, 0, 8, 7, 6, 5, 10, 4, 9, 3, 2, 1, 0, 8, 7, 6, 5, 10, 4, 9, 3, 2, 1, 0, 8, 7, 6, 5, 22, 11, 11, 21, 10, 4, 9, 3, 2, 1, 0, 8, 7, 6, 5, 20, 11, 15, 19, 11, 14, 11, 13, 11, 12, 11, 11, 10, 4, 9, 3, 2, 1, 0, 8, 7, 6, 5, 10, 4, 9, 3, 2, 1, 0, 8, 7, 6, 5, 10, 4, 9, 3, 2, 1, 0, 8, 7, 6, 5, 10, 4, 9, 3, 2, 1, 0, 8, 7, 6, 5, 18, 11, 17, 11, 16, 11, 11, 10, 4, 9, 3, 2, 1, 0, 8, 7, 6, 5, 10, 4, 9, 3, 2, 1, 0, 8, 7, 6, 5, 10, 4, 9, 3, 2, 1, 0, 8, 7, 6, 5, 10, 4, 9, 3, 2, 1, 0, 8, 7, 6, 5, 10, 4, 9, 3, 2, 1, 0, 8, 7, 6, 5, 10, 4, 9, 3, 2, 1, 0, 8, 7, 6, 5, 10, 4, 9, 3, 2, 1, 0, 8, 7, 6, 5, 22, 11, 11, 21, 10, 4, 9, 3, 2, 1, 0, 8, 7, 6, 5, 20, 11, 15, 19, 11, 14, 11, 13, 11, 12, 11, 11, 10, 4, 9, 3, 2, 1, 0, 8, 7, 6, 5, 10, 4, 9, 3, 2, 1, 0, 8, 7, 6, 5, 10, 4, 9, 3, 2, 1, 0, 8, 7, 6, 5, 10, 4, 9, 3, 2, 1, 0, 8, 7, 6, 5, 18, 11, 17, 11, 16, 11, 11, 10, 4, 9, 3, 2, 1, 0, 8, 7, 6, 5, 10, 4, 9, 3, 2, 1, 0, 8, 7, 6, 5, 10, 4, 9, 3, 2, 1, 0, 8, 7, 6, 5, 10, 4, 9, 3, 2, 1, 0, 8, 7, 6, 5, 10, 4, 9, 3, 2, 1, 0, 8, 7, 6, 5, 10, 4, 9, 3, 2, 1, 0, 8, 7, 6, 5, 10, 4, 9, 3, 2, 1, 0, 8, 7, 6, 5, 31, 23, 30, 23, 29, 23, 28, 23, 23, 22, 11, 11, 21, 10, 4, 9, 3, 2, 1, 0, 8, 7, 6, 5, 20, 11, 15, 19, 11, 14, 11, 13, 11, 12, 11, 11, 10, 4, 9, 3, 2, 1, 0, 8, 7, 6, 5, 10, 4, 9, 3, 2, 1, 0, 8, 7, 6, 5, 10, 4, 9, 3, 2, 1, 0, 8, 7, 6, 5, 10, 4, 9, 3, 2, 1, 0, 8, 7, 6, 5, 18, 11, 17, 11, 16, 11, 11, 10, 4, 9, 3, 2, 1, 0, 8, 7, 6, 5, 10, 4, 9, 3, 2, 1, 0, 8, 7, 6, 5, 10, 4, 9, 3, 2, 1, 0, 8, 7, 6, 5, 10, 4, 9, 3, 2, 1, 0, 8, 7, 6, 5, 10, 4, 9, 3, 2, 1, 0, 8, 7, 6, 5, 10, 4, 9, 3, 2, 1, 0, 8, 7, 6, 5, 10, 4, 9, 3, 2, 1, 0, 8, 7, 6, 5, 22, 11, 11, 21, 10, 4, 9, 3, 2, 1, 0, 8, 7, 6, 5, 20, 11, 15, 19, 11, 14, 11, 13, 11, 12, 11, 11, 10, 4, 9, 3, 2, 1, 0, 8, 7, 6, 5, 10, 4, 9, 3, 2, 1, 0, 8, 7, 6, 5, 10, 4, 9, 3, 2, 1, 0, 8, 7, 6, 5, 10, 4, 9, 3, 2, 1, 0, 8, 7, 6, 5, 18, 11, 17, 11, 16, 11, 11, 10, 4, 9, 3, 2, 1, 0, 8, 7, 6, 5, 10, 4, 9, 3, 2, 1, 0, 8, 7, 6, 5, 10, 4, 9, 3, 2, 1, 0, 8, 7, 6, 5, 10, 4, 9, 3, 2, 1, 0, 8, 7, 6, 5, 10, 4, 9, 3, 2, 1, 0, 8, 7, 6, 5, 10, 4, 9, 3, 2, 1, 0, 8, 7, 6, 5, 10, 4, 9, 3, 2, 1, 0, 8, 7, 6, 5, 22, 11, 11, 21, 10, 4, 9, 3, 2, 1, 0, 8, 7, 6, 5, 20, 11, 15, 19, 11, 14, 11, 13, 11, 12, 11, 11, 10, 4, 9, 3, 2, 1, 0, 8, 7, 6, 5, 10, 4, 9, 3, 2, 1, 0, 8, 7, 6, 5, 10, 4, 9, 3, 2, 1, 0, 8, 7, 6, 5, 10, 4, 9, 3, 2, 1, 0, 8, 7, 6, 5, 18, 11, 17, 11, 16, 11, 11, 10, 4, 9, 3, 2, 1, 0, 8, 7, 6, 5, 10, 4, 9, 3, 2, 1, 0, 8, 7, 6, 5, 10, 4, 9, 3, 2, 1, 0, 8, 7, 6, 5, 10, 4, 9, 3, 2, 1, 0, 8, 7, 6, 5, 10, 4, 9, 3, 2, 1, 0, 8, 7, 6, 5, 10, 4, 9, 3, 2, 1, 0, 8, 7, 6, 5, 10, 4, 9, 3, 2, 1, 0, 8, 7, 6, 5, 22, 11, 11, 21, 10, 4, 9, 3, 2, 1, 0, 8, 7, 6, 5, 20, 11, 15, 19, 11, 14, 11, 13, 11, 12, 11, 11, 10, 4, 9, 3, 2, 1, 0, 8, 7, 6, 5, 10, 4, 9, 3, 2, 1, 0, 8, 7, 6, 5, 10, 4, 9, 3, 2, 1, 0, 8, 7, 6, 5, 10, 4, 9, 3, 2, 1, 0, 8, 7, 6, 5, 18, 11, 17, 11, 16, 11, 11, 10, 4, 9, 3, 2, 1, 0, 8, 7, 6, 5, 10, 4, 9, 3, 2, 1, 0, 8, 7, 6, 5, 10, 4, 9, 3, 2, 1, 0, 8, 7, 6, 5, 10, 4, 9, 3, 2, 1, 0, 8, 7, 6, 5, 10, 4, 9, 3, 2, 1, 0, 8, 7, 6, 5, 10, 4, 9, 3, 2, 1, 0, 8, 7, 6, 5, 10, 4, 9, 3, 2, 1, 0, 8, 7, 6, 5, 22, 11, 11, 21, 10, 4, 9, 3, 2, 1, 0, 8, 7, 6, 5, 20, 11, 15, 19, 11, 14, 11, 13, 11, 12, 11, 11, 10, 4, 9, 3, 2, 1, 0, 8, 7, 6, 5, 10, 4, 9, 3, 2, 1, 0, 8, 7, 6, 5, 10, 4, 9, 3, 2, 1, 0, 8, 7, 6, 5, 10, 4, 9, 3, 2, 1, 0, 8, 7, 6, 5, 18, 11, 17, 11, 16, 11, 11, 10, 4, 9, 3, 2, 1, 0, 8, 7, 6, 5, 10, 4, 9, 3, 2, 1, 0, 8, 7, 6, 5, 10, 4, 9, 3, 2, 1, 0, 8, 7, 6, 5, 10, 4, 9, 3, 2, 1, 0, 8, 7, 6, 5, 10, 4, 9, 3, 2, 1, 0, 8, 7, 6, 5, 10, 4, 9, 3, 2, 1, 0, 8, 7, 6, 5, 10, 4, 9, 3, 2, 1, 0, 8, 7, 6, 5, 22, 11, 11, 21, 10, 4, 9, 3, 2, 1, 0, 8, 7, 6, 5, 20, 11, 15, 19, 11, 14, 11, 13, 11, 12, 11, 11, 10, 4, 9, 3, 2, 1, 0, 8, 7, 6, 5, 10, 4, 9, 3, 2, 1, 0, 8, 7, 6, 5, 10, 4, 9, 3, 2, 1, 0, 8, 7, 6, 5, 10, 4, 9, 3, 2, 1, 0, 8, 7, 6, 5, 18, 11, 17, 11, 16, 11, 11, 10, 4, 9, 3, 2, 1, 0, 8, 7, 6, 5, 10, 4, 9, 3, 2, 1, 0, 8, 7, 6, 5, 10, 4, 9, 3, 2, 1, 0, 8, 7, 6, 5, 10, 4, 9, 3, 2, 1, 0, 8, 7, 6, 5, 10, 4, 9, 3, 2, 1, 0, 8, 7, 6, 5, 10, 4, 9, 3, 2, 1, 0, 8, 7, 6, 5, 10, 4, 9, 3, 2, 1, 0, 8, 7, 6, 5, 22, 11, 11, 21, 10, 4, 9, 3, 2, 1, 0, 8, 7, 6, 5, 20, 11, 15, 19, 11, 14, 11, 13, 11, 12, 11, 11, 10, 4, 9, 3, 2, 1, 0, 8, 7, 6, 5, 10, 4, 9, 3, 2, 1, 0, 8, 7, 6, 5, 10, 4, 9, 3, 2, 1, 0, 8, 7, 6, 5, 10, 4, 9, 3, 2, 1, 0, 8, 7, 6, 5, 18, 11, 17, 11, 16, 11, 11, 10, 4, 9, 3, 2, 1, 0, 8, 7, 6, 5, 10, 4, 9, 3, 2, 1, 0, 8, 7, 6, 5, 10, 4, 9, 3, 2, 1, 0, 8, 7, 6, 5, 10, 4, 9, 3, 2, 1, 0, 8, 7, 6, 5, 10, 4, 9, 3, 2, 1, 0, 8, 7, 6, 5, 10, 4, 9, 3, 2, 1, 0, 8, 7, 6, 5, 10, 4, 9, 3, 2, 1, 0, 8, 7, 6, 5], [35, 23, 0, 1, 2, 3, 4, 5, 6, 7, 8, 9, 10, 11, 12, 13, 14, 15, 16, 17, 18, 19, 20, 21, 22, 23, 24, 25, 26, 27, 28, 29, 30, 31, 32, 33, 34, 35, 23, 34, 22, 11, 11, 21, 10, 4, 9, 3, 2, 1, 0, 8, 7, 6, 5, 20, 11, 15, 19, 11, 14, 11, 13, 11, 12, 11, 11, 10, 4, 9, 3, 2, 1, 0, 8, 7, 6, 5, 10, 4, 9, 3, 2, 1, 0, 8, 7, 6, 5, 10, 4, 9, 3, 2, 1, 0, 8, 7, 6, 5, 10, 4, 9, 3, 2, 1, 0, 8, 7, 6, 5, 18, 11, 17, 11, 16, 11, 11, 10, 4, 9, 3, 2, 1, 0, 8, 7, 6, 5, 10, 4, 9, 3, 2, 1, 0, 8, 7, 6, 5, 10, 4, 9, 3, 2, 1, 0, 8, 7, 6, 5, 10, 4, 9, 3, 2, 1, 0, 8, 7, 6, 5, 10, 4, 9, 3, 2, 1, 0, 8, 7, 6, 5, 10, 4, 9, 3, 2, 1, 0, 8, 7, 6, 5, 10, 4, 9, 3, 2, 1, 0, 8, 7, 6, 5, 33, 23, 27, 32, 23, 26, 23, 25, 23, 24, 23, 23, 22, 11, 11, 21, 10, 4, 9, 3, 2, 1, 0, 8, 7, 6, 5, 20, 11, 15, 19, 11, 14, 11, 13, 11, 12, 11, 11, 10, 4, 9, 3, 2, 1, 0, 8, 7, 6, 5, 10, 4, 9, 3, 2, 1, 0, 8, 7, 6, 5, 10, 4, 9, 3, 2, 1, 0, 8, 7, 6, 5, 10, 4, 9, 3, 2, 1, 0, 8, 7, 6, 5, 18, 11, 17, 11, 16, 11, 11, 10, 4, 9, 3, 2, 1, 0, 8, 7, 6, 5, 10, 4, 9, 3, 2, 1, 0, 8, 7, 6, 5, 10, 4, 9, 3, 2, 1, 0, 8, 7, 6, 5, 10, 4, 9, 3, 2, 1, 0, 8, 7, 6, 5, 10, 4, 9, 3, 2, 1, 0, 8, 7, 6, 5, 10, 4, 9, 3, 2, 1, 0, 8, 7, 6, 5, 10, 4, 9, 3, 2, 1, 0, 8, 7, 6, 5, 22, 11, 11, 21, 10, 4, 9, 3, 2, 1, 0, 8, 7, 6, 5, 20, 11, 15, 19, 11, 14, 11, 13, 11, 12, 11, 11, 10, 4, 9, 3, 2, 1, 0, 8, 7, 6, 5, 10, 4, 9, 3, 2, 1, 0, 8, 7, 6, 5, 10, 4, 9, 3, 2, 1, 0, 8, 7, 6, 5, 10, 4, 9, 3, 2, 1, 0, 8, 7, 6, 5, 18, 11, 17, 11, 16, 11, 11, 10, 4, 9, 3, 2, 1, 0, 8, 7, 6, 5, 10, 4, 9, 3, 2, 1, 0, 8, 7, 6, 5, 10, 4, 9, 3, 2, 1, 0, 8, 7, 6, 5, 10, 4, 9, 3, 2, 1, 0, 8, 7, 6, 5, 10, 4, 9, 3, 2, 1, 0, 8, 7, 6, 5, 10, 4, 9, 3, 2, 1, 0, 8, 7, 6, 5, 10, 4, 9, 3, 2, 1, 0, 8, 7, 6, 5, 22, 11, 11, 21, 10, 4, 9, 3, 2, 1, 0, 8, 7, 6, 5, 20, 11, 15, 19, 11, 14, 11, 13, 11, 12, 11, 11, 10, 4, 9, 3, 2, 1, 0, 8, 7, 6, 5, 10, 4, 9, 3, 2, 1, 0, 8, 7, 6, 5, 10, 4, 9, 3, 2, 1, 0, 8, 7, 6, 5, 10, 4, 9, 3, 2, 1, 0, 8, 7, 6, 5, 18, 11, 17, 11, 16, 11, 11, 10, 4, 9, 3, 2, 1, 0, 8, 7, 6, 5, 10, 4, 9, 3, 2, 1, 0, 8, 7, 6, 5, 10, 4, 9, 3, 2, 1, 0, 8, 7, 6, 5, 10, 4, 9, 3, 2, 1, 0, 8, 7, 6, 5, 10, 4, 9, 3, 2, 1, 0, 8, 7, 6, 5, 10, 4, 9, 3, 2, 1, 0, 8, 7, 6, 5, 10, 4, 9, 3, 2, 1, 0, 8, 7, 6, 5, 22, 11, 11, 21, 10, 4, 9, 3, 2, 1, 0, 8, 7, 6, 5, 20, 11, 15, 19, 11, 14, 11, 13, 11, 12, 11, 11, 10, 4, 9, 3, 2, 1, 0, 8, 7, 6, 5, 10, 4, 9, 3, 2, 1, 0, 8, 7, 6, 5, 10, 4, 9, 3, 2, 1, 0, 8, 7, 6, 5, 10, 4, 9, 3, 2, 1, 0, 8, 7, 6, 5, 18, 11, 17, 11, 16, 11, 11, 10, 4, 9, 3, 2, 1, 0, 8, 7, 6, 5, 10, 4, 9, 3, 2, 1, 0, 8, 7, 6, 5, 10, 4, 9, 3, 2, 1, 0, 8, 7, 6, 5, 10, 4, 9, 3, 2, 1, 0, 8, 7, 6, 5, 10, 4, 9, 3, 2, 1, 0, 8, 7, 6, 5, 10, 4, 9, 3, 2, 1, 0, 8, 7, 6, 5, 10, 4, 9, 3, 2, 1, 0, 8, 7, 6, 5, 31, 23, 30, 23, 29, 23, 28, 23, 23, 22, 11, 11, 21, 10, 4, 9, 3, 2, 1, 0, 8, 7, 6, 5, 20, 11, 15, 19, 11, 14, 11, 13, 11, 12, 11, 11, 10, 4, 9, 3, 2, 1, 0, 8, 7, 6, 5, 10, 4, 9, 3, 2, 1, 0, 8, 7, 6, 5, 10, 4, 9, 3, 2, 1, 0, 8, 7, 6, 5, 10, 4, 9, 3, 2, 1, 0, 8, 7, 6, 5, 18, 11, 17, 11, 16, 11, 11, 10, 4, 9, 3, 2, 1, 0, 8, 7, 6, 5, 10, 4, 9, 3, 2, 1, 0, 8, 7, 6, 5, 10, 4, 9, 3, 2, 1, 0, 8, 7, 6, 5, 10, 4, 9, 3, 2, 1, 0, 8, 7, 6, 5, 10, 4, 9, 3, 2, 1, 0, 8, 7, 6, 5, 10, 4, 9, 3, 2, 1, 0, 8, 7, 6, 5, 10, 4, 9, 3, 2, 1, 0, 8, 7, 6, 5, 22, 11, 11, 21, 10, 4, 9, 3, 2, 1, 0, 8, 7, 6, 5, 20, 11, 15, 19, 11, 14, 11, 13, 11, 12, 11, 11, 10, 4, 9, 3, 2, 1, 0, 8, 7, 6, 5, 10, 4, 9, 3, 2, 1, 0, 8, 7, 6, 5, 10, 4, 9, 3, 2, 1, 0, 8, 7, 6, 5, 10, 4, 9, 3, 2, 1, 0, 8, 7, 6, 5, 18, 11, 17, 11, 16, 11, 11, 10, 4, 9, 3, 2, 1, 0, 8, 7, 6, 5, 10, 4, 9, 3, 2, 1, 0, 8, 7, 6, 5, 10, 4, 9, 3, 2, 1, 0, 8, 7, 6, 5, 10, 4, 9, 3, 2, 1, 0, 8, 7, 6, 5, 10, 4, 9, 3, 2, 1, 0, 8, 7, 6, 5, 10, 4, 9, 3, 2, 1, 0, 8, 7, 6, 5, 10, 4, 9, 3, 2, 1, 0, 8, 7, 6, 5, 22, 11, 11, 21, 10, 4, 9, 3, 2, 1, 0, 8, 7, 6, 5, 20, 11, 15, 19, 11, 14, 11, 13, 11, 12, 11, 11, 10, 4, 9, 3, 2, 1, 0, 8, 7, 6, 5, 10, 4, 9, 3, 2, 1, 0, 8, 7, 6, 5, 10, 4, 9, 3, 2, 1, 0, 8, 7, 6, 5, 10, 4, 9, 3, 2, 1, 0, 8, 7, 6, 5, 18, 11, 17, 11, 16, 11, 11, 10, 4, 9, 3, 2, 1, 0, 8, 7, 6, 5, 10, 4, 9, 3, 2, 1, 0, 8, 7, 6, 5, 10, 4, 9, 3, 2, 1, 0, 8, 7, 6, 5, 10, 4, 9, 3, 2, 1, 0, 8, 7, 6, 5, 10, 4, 9, 3, 2, 1, 0, 8, 7, 6, 5, 10, 4, 9, 3, 2, 1, 0, 8, 7, 6, 5, 10, 4, 9, 3, 2, 1, 0, 8, 7, 6, 5, 22, 11, 11, 21, 10, 4, 9, 3, 2, 1, 0, 8, 7, 6, 5, 20, 11, 15, 19, 11, 14, 11, 13, 11, 12, 11, 11, 10, 4, 9, 3, 2, 1, 0, 8, 7, 6, 5, 10, 4, 9, 3, 2, 1, 0, 8, 7, 6, 5, 10, 4, 9, 3, 2, 1, 0, 8, 7, 6, 5, 10, 4, 9, 3, 2, 1, 0, 8, 7, 6, 5, 18, 11, 17, 11, 16, 11, 11, 10, 4, 9, 3, 2, 1, 0, 8, 7, 6, 5, 10, 4, 9, 3, 2, 1, 0, 8, 7, 6, 5, 10, 4, 9, 3, 2, 1, 0, 8, 7, 6, 5, 10, 4, 9, 3, 2, 1, 0, 8, 7, 6, 5, 10, 4, 9, 3, 2, 1, 0, 8, 7, 6, 5, 10, 4, 9, 3, 2, 1, 0, 8, 7, 6, 5, 10, 4, 9, 3, 2, 1, 0, 8, 7, 6, 5, 22, 11, 11, 21, 10, 4, 9, 3, 2, 1, 0, 8, 7, 6, 5, 20, 11, 15, 19, 11, 14, 11, 13, 11, 12, 11, 11, 10, 4, 9, 3, 2, 1, 0, 8, 7, 6, 5, 10, 4, 9, 3, 2, 1, 0, 8, 7, 6, 5, 10, 4, 9, 3, 2, 1, 0, 8, 7, 6, 5, 10, 4, 9, 3, 2, 1, 0, 8, 7, 6, 5, 18, 11, 17, 11, 16, 11, 11, 10, 4, 9, 3, 2, 1, 0, 8, 7, 6, 5, 10, 4, 9, 3, 2, 1, 0, 8, 7, 6, 5, 10, 4, 9, 3, 2, 1, 0, 8, 7, 6, 5, 10, 4, 9, 3, 2, 1, 0, 8, 7, 6, 5, 10, 4, 9, 3, 2, 1, 0, 8, 7, 6, 5, 10, 4, 9, 3, 2, 1, 0, 8, 7, 6, 5, 10, 4, 9, 3, 2, 1, 0, 8, 7, 6, 5, 22, 11, 11, 21, 10, 4, 9, 3, 2, 1, 0, 8, 7, 6, 5, 20, 11, 15, 19, 11, 14, 11, 13, 11, 12, 11, 11, 10, 4, 9, 3, 2, 1, 0, 8, 7, 6, 5, 10, 4, 9, 3, 2, 1, 0, 8, 7, 6, 5, 10, 4, 9, 3, 2, 1, 0, 8, 7, 6, 5, 10, 4, 9, 3, 2, 1, 0, 8, 7, 6, 5, 18, 11, 17, 11, 16, 11, 11, 10, 4, 9, 3, 2, 1, 0, 8, 7, 6, 5, 10, 4, 9, 3, 2, 1, 0, 8, 7, 6, 5, 10, 4, 9, 3, 2, 1, 0, 8, 7, 6, 5, 10, 4, 9, 3, 2, 1, 0, 8, 7, 6, 5, 10, 4, 9, 3, 2, 1, 0, 8, 7, 6, 5, 10, 4, 9, 3, 2, 1, 0, 8, 7, 6, 5, 10, 4, 9, 3, 2, 1, 0, 8, 7, 6, 5, 22, 11, 11, 21, 10, 4, 9, 3, 2, 1, 0, 8, 7, 6, 5, 20, 11, 15, 19, 11, 14, 11, 13, 11, 12, 11, 11, 10, 4, 9, 3, 2, 1, 0, 8, 7, 6, 5, 10, 4, 9, 3, 2, 1, 0, 8, 7, 6, 5, 10, 4, 9, 3, 2, 1, 0, 8, 7, 6, 5, 10, 4, 9, 3, 2, 1, 0, 8, 7, 6, 5, 18, 11, 17, 11, 16, 11, 11, 10, 4, 9, 3, 2, 1, 0, 8, 7, 6, 5, 10, 4, 9, 3, 2, 1, 0, 8, 7, 6, 5, 10, 4, 9, 3, 2, 1, 0, 8, 7, 6, 5, 10, 4, 9, 3, 2, 1, 0, 8, 7, 6, 5, 10, 4, 9, 3, 2, 1, 0, 8, 7, 6, 5, 10, 4, 9, 3, 2, 1, 0, 8, 7, 6, 5, 10, 4, 9, 3, 2, 1, 0, 8, 7, 6, 5, 22, 11, 11, 21, 10, 4, 9, 3, 2, 1, 0, 8, 7, 6, 5, 20, 11, 15, 19, 11, 14, 11, 13, 11, 12, 11, 11, 10, 4, 9, 3, 2, 1, 0, 8, 7, 6, 5, 10, 4, 9, 3, 2, 1, 0, 8, 7, 6, 5, 10, 4, 9, 3, 2, 1, 0, 8, 7, 6, 5, 10, 4, 9, 3, 2, 1, 0, 8, 7, 6, 5, 18, 11, 17, 11, 16, 11, 11, 10, 4, 9, 3, 2, 1, 0, 8, 7, 6, 5, 10, 4, 9, 3, 2, 1, 0, 8, 7, 6, 5, 10, 4, 9, 3, 2, 1, 0, 8, 7, 6, 5, 10, 4, 9, 3, 2, 1, 0, 8, 7, 6, 5, 10, 4, 9, 3, 2, 1, 0, 8, 7, 6, 5, 10, 4, 9, 3, 2, 1, 0, 8, 7, 6, 5, 10, 4, 9, 3, 2, 1, 0, 8, 7, 6, 5, 0, 1, 0, 2, 1, 0, 3, 2, 1, 0, 5, 6, 5, 7, 6, 5, 8, 7, 6, 5, 4, 9, 3, 2, 1, 0, 8, 7, 6, 5, 10, 4, 9, 3, 2, 1, 0, 8, 7, 6, 5, 11, 10, 4, 9, 3, 2, 1, 0, 8, 7, 6, 5, 12, 11, 11, 10, 4, 9, 3, 2, 1, 0, 8, 7, 6, 5, 10, 4, 9, 3, 2, 1, 0, 8, 7, 6, 5, 13, 11, 12, 11, 11, 10, 4, 9, 3, 2, 1, 0, 8, 7, 6, 5, 10, 4, 9, 3, 2, 1, 0, 8, 7, 6, 5, 10, 4, 9, 3, 2, 1, 0, 8, 7, 6, 5, 14, 11, 13, 11, 12, 11, 11, 10, 4, 9, 3, 2, 1, 0, 8, 7, 6, 5, 10, 4, 9, 3, 2, 1, 0, 8, 7, 6, 5, 10, 4, 9, 3, 2, 1, 0, 8, 7, 6, 5, 10, 4, 9, 3, 2, 1, 0, 8, 7, 6, 5, 11, 10, 4, 9, 3, 2, 1, 0, 8, 7, 6, 5, 16, 11, 11, 10, 4, 9, 3, 2, 1, 0, 8, 7, 6, 5, 10, 4, 9, 3, 2, 1, 0, 8, 7, 6, 5, 17, 11, 16, 11, 11, 10, 4, 9, 3, 2, 1, 0, 8, 7, 6, 5, 10, 4, 9, 3, 2, 1, 0, 8, 7, 6, 5, 10, 4, 9, 3, 2, 1, 0, 8, 7, 6, 5, 18, 11, 17, 11, 16, 11, 11, 10, 4, 9, 3, 2, 1, 0, 8, 7, 6, 5, 10, 4, 9, 3, 2, 1, 0, 8, 7, 6, 5, 10, 4, 9, 3, 2, 1, 0, 8, 7, 6, 5, 10, 4, 9, 3, 2, 1, 0, 8, 7, 6, 5, 15, 19, 11, 14, 11, 13, 11, 12, 11, 11, 10, 4, 9, 3, 2, 1, 0, 8, 7, 6, 5, 10, 4, 9, 3, 2, 1, 0, 8, 7, 6, 5, 10, 4, 9, 3, 2, 1, 0, 8, 7, 6, 5, 10, 4, 9, 3, 2, 1, 0, 8, 7, 6, 5, 18, 11, 17, 11, 16, 11, 11, 10, 4, 9, 3, 2, 1, 0, 8, 7, 6, 5, 10, 4, 9, 3, 2, 1, 0, 8, 7, 6, 5, 10, 4, 9, 3, 2, 1, 0, 8, 7, 6, 5, 10, 4, 9, 3, 2, 1, 0, 8, 7, 6, 5, 10, 4, 9, 3, 2, 1, 0, 8, 7, 6, 5, 20, 11, 15, 19, 11, 14, 11, 13, 11, 12, 11, 11, 10, 4, 9, 3, 2, 1, 0, 8, 7, 6, 5, 10, 4, 9, 3, 2, 1, 0, 8, 7, 6, 5, 10, 4, 9, 3, 2, 1, 0, 8, 7, 6, 5, 10, 4, 9, 3, 2, 1, 0, 8, 7, 6, 5, 18, 11, 17, 11, 16, 11, 11, 10, 4, 9, 3, 2, 1, 0, 8, 7, 6, 5, 10, 4, 9, 3, 2, 1, 0, 8, 7, 6, 5, 10, 4, 9, 3, 2, 1, 0, 8, 7, 6, 5, 10, 4, 9, 3, 2, 1, 0, 8, 7, 6, 5, 10, 4, 9, 3, 2, 1, 0, 8, 7, 6, 5, 10, 4, 9, 3, 2, 1, 0, 8, 7, 6, 5, 11, 21, 10, 4, 9, 3, 2, 1, 0, 8, 7, 6, 5, 20, 11, 15, 19, 11, 14, 11, 13, 11, 12, 11, 11, 10, 4, 9, 3, 2, 1, 0, 8, 7, 6, 5, 10, 4, 9, 3, 2, 1, 0, 8, 7, 6, 5, 10, 4, 9, 3, 2, 1, 0, 8, 7, 6, 5, 10, 4, 9, 3, 2, 1, 0, 8, 7, 6, 5, 18, 11, 17, 11, 16, 11, 11, 10, 4, 9, 3, 2, 1, 0, 8, 7, 6, 5, 10, 4, 9, 3, 2, 1, 0, 8, 7, 6, 5, 10, 4, 9, 3, 2, 1, 0, 8, 7, 6, 5, 10, 4, 9, 3, 2, 1, 0, 8, 7, 6, 5, 10, 4, 9, 3, 2, 1, 0, 8, 7, 6, 5, 10, 4, 9, 3, 2, 1, 0, 8, 7, 6, 5, 22, 11, 11, 21, 10, 4, 9, 3, 2, 1, 0, 8, 7, 6, 5, 20, 11, 15, 19, 11, 14, 11, 13, 11, 12, 11, 11, 10, 4, 9, 3, 2, 1, 0, 8, 7, 6, 5, 10, 4, 9, 3, 2, 1, 0, 8, 7, 6, 5, 10, 4, 9, 3, 2, 1, 0, 8, 7, 6, 5, 10, 4, 9, 3, 2, 1, 0, 8, 7, 6, 5, 18, 11, 17, 11, 16, 11, 11, 10, 4, 9, 3, 2, 1, 0, 8, 7, 6, 5, 10, 4, 9, 3, 2, 1, 0, 8, 7, 6, 5, 10, 4, 9, 3, 2, 1, 0, 8, 7, 6, 5, 10, 4, 9, 3, 2, 1, 0, 8, 7, 6, 5, 10, 4, 9, 3, 2, 1, 0, 8, 7, 6, 5, 10, 4, 9, 3, 2, 1, 0, 8, 7, 6, 5, 10, 4, 9, 3, 2, 1, 0, 8, 7, 6, 5, 23, 22, 11, 11, 21, 10, 4, 9, 3, 2, 1, 0, 8, 7, 6, 5, 20, 11, 15, 19, 11, 14, 11, 13, 11, 12, 11, 11, 10, 4, 9, 3, 2, 1, 0, 8, 7, 6, 5, 10, 4, 9, 3, 2, 1, 0, 8, 7, 6, 5, 10, 4, 9, 3, 2, 1, 0, 8, 7, 6, 5, 10, 4, 9, 3, 2, 1, 0, 8, 7, 6, 5, 18, 11, 17, 11, 16, 11, 11, 10, 4, 9, 3, 2, 1, 0, 8, 7, 6, 5, 10, 4, 9, 3, 2, 1, 0, 8, 7, 6, 5, 10, 4, 9, 3, 2, 1, 0, 8, 7, 6, 5, 10, 4, 9, 3, 2, 1, 0, 8, 7, 6, 5, 10, 4, 9, 3, 2, 1, 0, 8, 7, 6, 5, 10, 4, 9, 3, 2, 1, 0, 8, 7, 6, 5, 10, 4, 9, 3, 2, 1, 0, 8, 7, 6, 5, 24, 23, 23, 22, 11, 11, 21, 10, 4, 9, 3, 2, 1, 0, 8, 7, 6, 5, 20, 11, 15, 19, 11, 14, 11, 13, 11, 12, 11, 11, 10, 4, 9, 3, 2, 1, 0, 8, 7, 6, 5, 10, 4, 9, 3, 2, 1, 0, 8, 7, 6, 5, 10, 4, 9, 3, 2, 1, 0, 8, 7, 6, 5, 10, 4, 9, 3, 2, 1, 0, 8, 7, 6, 5, 18, 11, 17, 11, 16, 11, 11, 10, 4, 9, 3, 2, 1, 0, 8, 7, 6, 5, 10, 4, 9, 3, 2, 1, 0, 8, 7, 6, 5, 10, 4, 9, 3, 2, 1, 0, 8, 7, 6, 5, 10, 4, 9, 3, 2, 1, 0, 8, 7, 6, 5, 10, 4, 9, 3, 2, 1, 0, 8, 7, 6, 5, 10, 4, 9, 3, 2, 1, 0, 8, 7, 6, 5, 10, 4, 9, 3, 2, 1, 0, 8, 7, 6, 5, 22, 11, 11, 21, 10, 4, 9, 3, 2, 1, 0, 8, 7, 6, 5, 20, 11, 15, 19, 11, 14, 11, 13, 11, 12, 11, 11, 10, 4, 9, 3, 2, 1, 0, 8, 7, 6, 5, 10, 4, 9, 3, 2, 1, 0, 8, 7, 6, 5, 10, 4, 9, 3, 2, 1, 0, 8, 7, 6, 5, 10, 4, 9, 3, 2, 1, 0, 8, 7, 6, 5, 18, 11, 17, 11, 16, 11, 11, 10, 4, 9, 3, 2, 1, 0, 8, 7, 6, 5, 10, 4, 9, 3, 2, 1, 0, 8, 7, 6, 5, 10, 4, 9, 3, 2, 1, 0, 8, 7, 6, 5, 10, 4, 9, 3, 2, 1, 0, 8, 7, 6, 5, 10, 4, 9, 3, 2, 1, 0, 8, 7, 6, 5, 10, 4, 9, 3, 2, 1, 0, 8, 7, 6, 5, 10, 4, 9, 3, 2, 1, 0, 8, 7, 6, 5, 25, 23, 24, 23, 23, 22, 11, 11, 21, 10, 4, 9, 3, 2, 1, 0, 8, 7, 6, 5, 20, 11, 15, 19, 11, 14, 11, 13, 11, 12, 11, 11, 10, 4, 9, 3, 2, 1, 0, 8, 7, 6, 5, 10, 4, 9, 3, 2, 1, 0, 8, 7, 6, 5, 10, 4, 9, 3, 2, 1, 0, 8, 7, 6, 5, 10, 4, 9, 3, 2, 1, 0, 8, 7, 6, 5, 18, 11, 17, 11, 16, 11, 11, 10, 4, 9, 3, 2, 1, 0, 8, 7, 6, 5, 10, 4, 9, 3, 2, 1, 0, 8, 7, 6, 5, 10, 4, 9, 3, 2, 1, 0, 8, 7, 6, 5, 10, 4, 9, 3, 2, 1, 0, 8, 7, 6, 5, 10, 4, 9, 3, 2, 1, 0, 8, 7, 6, 5, 10, 4, 9, 3, 2, 1, 0, 8, 7, 6, 5, 10, 4, 9, 3, 2, 1, 0, 8, 7, 6, 5, 22, 11, 11, 21, 10, 4, 9, 3, 2, 1, 0, 8, 7, 6, 5, 20, 11, 15, 19, 11, 14, 11, 13, 11, 12, 11, 11, 10, 4, 9, 3, 2, 1, 0, 8, 7, 6, 5, 10, 4, 9, 3, 2, 1, 0, 8, 7, 6, 5, 10, 4, 9, 3, 2, 1, 0, 8, 7, 6, 5, 10, 4, 9, 3, 2, 1, 0, 8, 7, 6, 5, 18, 11, 17, 11, 16, 11, 11, 10, 4, 9, 3, 2, 1, 0, 8, 7, 6, 5, 10, 4, 9, 3, 2, 1, 0, 8, 7, 6, 5, 10, 4, 9, 3, 2, 1, 0, 8, 7, 6, 5, 10, 4, 9, 3, 2, 1, 0, 8, 7, 6, 5, 10, 4, 9, 3, 2, 1, 0, 8, 7, 6, 5, 10, 4, 9, 3, 2, 1, 0, 8, 7, 6, 5, 10, 4, 9, 3, 2, 1, 0, 8, 7, 6, 5, 22, 11, 11, 21, 10, 4, 9, 3, 2, 1, 0, 8, 7, 6, 5, 20, 11, 15, 19, 11, 14, 11, 13, 11, 12, 11, 11, 10, 4, 9, 3, 2, 1, 0, 8, 7, 6, 5, 10, 4, 9, 3, 2, 1, 0, 8, 7, 6, 5, 10, 4, 9, 3, 2, 1, 0, 8, 7, 6, 5, 10, 4, 9, 3, 2, 1, 0, 8, 7, 6, 5, 18, 11, 17, 11, 16, 11, 11, 10, 4, 9, 3, 2, 1, 0, 8, 7, 6, 5, 10, 4, 9, 3, 2, 1, 0, 8, 7, 6, 5, 10, 4, 9, 3, 2, 1, 0, 8, 7, 6, 5, 10, 4, 9, 3, 2, 1, 0, 8, 7, 6, 5, 10, 4, 9, 3, 2, 1, 0, 8, 7, 6, 5, 10, 4, 9, 3, 2, 1, 0, 8, 7, 6, 5, 10, 4, 9, 3, 2, 1, 0, 8, 7, 6, 5, 26, 23, 25, 23, 24, 23, 23, 22, 11, 11, 21, 10, 4, 9, 3, 2, 1, 0, 8, 7, 6, 5, 20, 11, 15, 19, 11, 14, 11, 13, 11, 12, 11, 11, 10, 4, 9, 3, 2, 1, 0, 8, 7, 6, 5, 10, 4, 9, 3, 2, 1, 0, 8, 7, 6, 5, 10, 4, 9, 3, 2, 1, 0, 8, 7, 6, 5, 10, 4, 9, 3, 2, 1, 0, 8, 7, 6, 5, 18, 11, 17, 11, 16, 11, 11, 10, 4, 9, 3, 2, 1, 0, 8, 7, 6, 5, 10, 4, 9, 3, 2, 1, 0, 8, 7, 6, 5, 10, 4, 9, 3, 2, 1, 0, 8, 7, 6, 5, 10, 4, 9, 3, 2, 1, 0, 8, 7, 6, 5, 10, 4, 9, 3, 2, 1, 0, 8, 7, 6, 5, 10, 4, 9, 3, 2, 1, 0, 8, 7, 6, 5, 10, 4, 9, 3, 2, 1, 0, 8, 7, 6, 5, 22, 11, 11, 21, 10, 4, 9, 3, 2, 1, 0, 8, 7, 6, 5, 20, 11, 15, 19, 11, 14, 11, 13, 11, 12, 11, 11, 10, 4, 9, 3, 2, 1, 0, 8, 7, 6, 5, 10, 4, 9, 3, 2, 1, 0, 8, 7, 6, 5, 10, 4, 9, 3, 2, 1, 0, 8, 7, 6, 5, 10, 4, 9, 3, 2, 1, 0, 8, 7, 6, 5, 18, 11, 17, 11, 16, 11, 11, 10, 4, 9, 3, 2, 1, 0, 8, 7, 6, 5, 10, 4, 9, 3, 2, 1, 0, 8, 7, 6, 5, 10, 4, 9, 3, 2, 1, 0, 8, 7, 6, 5, 10, 4, 9, 3, 2, 1, 0, 8, 7, 6, 5, 10, 4, 9, 3, 2, 1, 0, 8, 7, 6, 5, 10, 4, 9, 3, 2, 1, 0, 8, 7, 6, 5, 10, 4, 9, 3, 2, 1, 0, 8, 7, 6, 5, 22, 11, 11, 21, 10, 4, 9, 3, 2, 1, 0, 8, 7, 6, 5, 20, 11, 15, 19, 11, 14, 11, 13, 11, 12, 11, 11, 10, 4, 9, 3, 2, 1, 0, 8, 7, 6, 5, 10, 4, 9, 3, 2, 1, 0, 8, 7, 6, 5, 10, 4, 9, 3, 2, 1, 0, 8, 7, 6, 5, 10, 4, 9, 3, 2, 1, 0, 8, 7, 6, 5, 18, 11, 17, 11, 16, 11, 11, 10, 4, 9, 3, 2, 1, 0, 8, 7, 6, 5, 10, 4, 9, 3, 2, 1, 0, 8, 7, 6, 5, 10, 4, 9, 3, 2, 1, 0, 8, 7, 6, 5, 10, 4, 9, 3, 2, 1, 0, 8, 7, 6, 5, 10, 4, 9, 3, 2, 1, 0, 8, 7, 6, 5, 10, 4, 9, 3, 2, 1, 0, 8, 7, 6, 5, 10, 4, 9, 3, 2, 1, 0, 8, 7, 6, 5, 22, 11, 11, 21, 10, 4, 9, 3, 2, 1, 0, 8, 7, 6, 5, 20, 11, 15, 19, 11, 14, 11, 13, 11, 12, 11, 11, 10, 4, 9, 3, 2, 1, 0, 8, 7, 6, 5, 10, 4, 9, 3, 2, 1, 0, 8, 7, 6, 5, 10, 4, 9, 3, 2, 1, 0, 8, 7, 6, 5, 10, 4, 9, 3, 2, 1, 0, 8, 7, 6, 5, 18, 11, 17, 11, 16, 11, 11, 10, 4, 9, 3, 2, 1, 0, 8, 7, 6, 5, 10, 4, 9, 3, 2, 1, 0, 8, 7, 6, 5, 10, 4, 9, 3, 2, 1, 0, 8, 7, 6, 5, 10, 4, 9, 3, 2, 1, 0, 8, 7, 6, 5, 10, 4, 9, 3, 2, 1, 0, 8, 7, 6, 5, 10, 4, 9, 3, 2, 1, 0, 8, 7, 6, 5, 10, 4, 9, 3, 2, 1, 0, 8, 7, 6, 5, 23, 22, 11, 11, 21, 10, 4, 9, 3, 2, 1, 0, 8, 7, 6, 5, 20, 11, 15, 19, 11, 14, 11, 13, 11, 12, 11, 11, 10, 4, 9, 3, 2, 1, 0, 8, 7, 6, 5, 10, 4, 9, 3, 2, 1, 0, 8, 7, 6, 5, 10, 4, 9, 3, 2, 1, 0, 8, 7, 6, 5, 10, 4, 9, 3, 2, 1, 0, 8, 7, 6, 5, 18, 11, 17, 11, 16, 11, 11, 10, 4, 9, 3, 2, 1, 0, 8, 7, 6, 5, 10, 4, 9, 3, 2, 1, 0, 8, 7, 6, 5, 10, 4, 9, 3, 2, 1, 0, 8, 7, 6, 5, 10, 4, 9, 3, 2, 1, 0, 8, 7, 6, 5, 10, 4, 9, 3, 2, 1, 0, 8, 7, 6, 5, 10, 4, 9, 3, 2, 1, 0, 8, 7, 6, 5, 10, 4, 9, 3, 2, 1, 0, 8, 7, 6, 5, 28, 23, 23, 22, 11, 11, 21, 10, 4, 9, 3, 2, 1, 0, 8, 7, 6, 5, 20, 11, 15, 19, 11, 14, 11, 13, 11, 12, 11, 11, 10, 4, 9, 3, 2, 1, 0, 8, 7, 6, 5, 10, 4, 9, 3, 2, 1, 0, 8, 7, 6, 5, 10, 4, 9, 3, 2, 1, 0, 8, 7, 6, 5, 10, 4, 9, 3, 2, 1, 0, 8, 7, 6, 5, 18, 11, 17, 11, 16, 11, 11, 10, 4, 9, 3, 2, 1, 0, 8, 7, 6, 5, 10, 4, 9, 3, 2, 1, 0, 8, 7, 6, 5, 10, 4, 9, 3, 2, 1, 0, 8, 7, 6, 5, 10, 4, 9, 3, 2, 1, 0, 8, 7, 6, 5, 10, 4, 9, 3, 2, 1, 0, 8, 7, 6, 5, 10, 4, 9, 3, 2, 1, 0, 8, 7, 6, 5, 10, 4, 9, 3, 2, 1, 0, 8, 7, 6, 5, 22, 11, 11, 21, 10, 4, 9, 3, 2, 1, 0, 8, 7, 6, 5, 20, 11, 15, 19, 11, 14, 11, 13, 11, 12, 11, 11, 10, 4, 9, 3, 2, 1, 0, 8, 7, 6, 5, 10, 4, 9, 3, 2, 1, 0, 8, 7, 6, 5, 10, 4, 9, 3, 2, 1, 0, 8, 7, 6, 5, 10, 4, 9, 3, 2, 1, 0, 8, 7, 6, 5, 18, 11, 17, 11, 16, 11, 11, 10, 4, 9, 3, 2, 1, 0, 8, 7, 6, 5, 10, 4, 9, 3, 2, 1, 0, 8, 7, 6, 5, 10, 4, 9, 3, 2, 1, 0, 8, 7, 6, 5, 10, 4, 9, 3, 2, 1, 0, 8, 7, 6, 5, 10, 4, 9, 3, 2, 1, 0, 8, 7, 6, 5, 10, 4, 9, 3, 2, 1, 0, 8, 7, 6, 5, 10, 4, 9, 3, 2, 1, 0, 8, 7, 6, 5, 29, 23, 28, 23, 23, 22, 11, 11, 21, 10, 4, 9, 3, 2, 1, 0, 8, 7, 6, 5, 20, 11, 15, 19, 11, 14, 11, 13, 11, 12, 11, 11, 10, 4, 9, 3, 2, 1, 0, 8, 7, 6, 5, 10, 4, 9, 3, 2, 1, 0, 8, 7, 6, 5, 10, 4, 9, 3, 2, 1, 0, 8, 7, 6, 5, 10, 4, 9, 3, 2, 1, 0, 8, 7, 6, 5, 18, 11, 17, 11, 16, 11, 11, 10, 4, 9, 3, 2, 1, 0, 8, 7, 6, 5, 10, 4, 9, 3, 2, 1, 0, 8, 7, 6, 5, 10, 4, 9, 3, 2, 1, 0, 8, 7, 6, 5, 10, 4, 9, 3, 2, 1, 0, 8, 7, 6, 5, 10, 4, 9, 3, 2, 1, 0, 8, 7, 6, 5, 10, 4, 9, 3, 2, 1, 0, 8, 7, 6, 5, 10, 4, 9, 3, 2, 1, 0, 8, 7, 6, 5, 22, 11, 11, 21, 10, 4, 9, 3, 2, 1, 0, 8, 7, 6, 5, 20, 11, 15, 19, 11, 14, 11, 13, 11, 12, 11, 11, 10, 4, 9, 3, 2, 1, 0, 8, 7, 6, 5, 10, 4, 9, 3, 2, 1, 0, 8, 7, 6, 5, 10, 4, 9, 3, 2, 1, 0, 8, 7, 6, 5, 10, 4, 9, 3, 2, 1, 0, 8, 7, 6, 5, 18, 11, 17, 11, 16, 11, 11, 10, 4, 9, 3, 2, 1, 0, 8, 7, 6, 5, 10, 4, 9, 3, 2, 1, 0, 8, 7, 6, 5, 10, 4, 9, 3, 2, 1, 0, 8, 7, 6, 5, 10, 4, 9, 3, 2, 1, 0, 8, 7, 6, 5, 10, 4, 9, 3, 2, 1, 0, 8, 7, 6, 5, 10, 4, 9, 3, 2, 1, 0, 8, 7, 6, 5, 10, 4, 9, 3, 2, 1, 0, 8, 7, 6, 5, 22, 11, 11, 21, 10, 4, 9, 3, 2, 1, 0, 8, 7, 6, 5, 20, 11, 15, 19, 11, 14, 11, 13, 11, 12, 11, 11, 10, 4, 9, 3, 2, 1, 0, 8, 7, 6, 5, 10, 4, 9, 3, 2, 1, 0, 8, 7, 6, 5, 10, 4, 9, 3, 2, 1, 0, 8, 7, 6, 5, 10, 4, 9, 3, 2, 1, 0, 8, 7, 6, 5, 18, 11, 17, 11, 16, 11, 11, 10, 4, 9, 3, 2, 1, 0, 8, 7, 6, 5, 10, 4, 9, 3, 2, 1, 0, 8, 7, 6, 5, 10, 4, 9, 3, 2, 1, 0, 8, 7, 6, 5, 10, 4, 9, 3, 2, 1, 0, 8, 7, 6, 5, 10, 4, 9, 3, 2, 1, 0, 8, 7, 6, 5, 10, 4, 9, 3, 2, 1, 0, 8, 7, 6, 5, 10, 4, 9, 3, 2, 1, 0, 8, 7, 6, 5, 30, 23, 29, 23, 28, 23, 23, 22, 11, 11, 21, 10, 4, 9, 3, 2, 1, 0, 8, 7, 6, 5, 20, 11, 15, 19, 11, 14, 11, 13, 11, 12, 11, 11, 10, 4, 9, 3, 2, 1, 0, 8, 7, 6, 5, 10, 4, 9, 3, 2, 1, 0, 8, 7, 6, 5, 10, 4, 9, 3, 2, 1, 0, 8, 7, 6, 5, 10, 4, 9, 3, 2, 1, 0, 8, 7, 6, 5, 18, 11, 17, 11, 16, 11, 11, 10, 4, 9, 3, 2, 1, 0, 8, 7, 6, 5, 10, 4, 9, 3, 2, 1, 0, 8, 7, 6, 5, 10, 4, 9, 3, 2, 1, 0, 8, 7, 6, 5, 10, 4, 9, 3, 2, 1, 0, 8, 7, 6, 5, 10, 4, 9, 3, 2, 1, 0, 8, 7, 6, 5, 10, 4, 9, 3, 2, 1, 0, 8, 7, 6, 5, 10, 4, 9, 3, 2, 1, 0, 8, 7, 6, 5, 22, 11, 11, 21, 10, 4, 9, 3, 2, 1, 0, 8, 7, 6, 5, 20, 11, 15, 19, 11, 14, 11, 13, 11, 12, 11, 11, 10, 4, 9, 3, 2, 1, 0, 8, 7, 6, 5, 10, 4, 9, 3, 2, 1, 0, 8, 7, 6, 5, 10, 4, 9, 3, 2, 1, 0, 8, 7, 6, 5, 10, 4, 9, 3, 2, 1, 0, 8, 7, 6, 5, 18, 11, 17, 11, 16, 11, 11, 10, 4, 9, 3, 2, 1, 0, 8, 7, 6, 5, 10, 4, 9, 3, 2, 1, 0, 8, 7, 6, 5, 10, 4, 9, 3, 2, 1, 0, 8, 7, 6, 5, 10, 4, 9, 3, 2, 1, 0, 8, 7, 6, 5, 10, 4, 9, 3, 2, 1, 0, 8, 7, 6, 5, 10, 4, 9, 3, 2, 1, 0, 8, 7, 6, 5, 10, 4, 9, 3, 2, 1, 0, 8, 7, 6, 5, 22, 11, 11, 21, 10, 4, 9, 3, 2, 1, 0, 8, 7, 6, 5, 20, 11, 15, 19, 11, 14, 11, 13, 11, 12, 11, 11, 10, 4, 9, 3, 2, 1, 0, 8, 7, 6, 5, 10, 4, 9, 3, 2, 1, 0, 8, 7, 6, 5, 10, 4, 9, 3, 2, 1, 0, 8, 7, 6, 5, 10, 4, 9, 3, 2, 1, 0, 8, 7, 6, 5, 18, 11, 17, 11, 16, 11, 11, 10, 4, 9, 3, 2, 1, 0, 8, 7, 6, 5, 10, 4, 9, 3, 2, 1, 0, 8, 7, 6, 5, 10, 4, 9, 3, 2, 1, 0, 8, 7, 6, 5, 10, 4, 9, 3, 2, 1, 0, 8, 7, 6, 5, 10, 4, 9, 3, 2, 1, 0, 8, 7, 6, 5, 10, 4, 9, 3, 2, 1, 0, 8, 7, 6, 5, 10, 4, 9, 3, 2, 1, 0, 8, 7, 6, 5, 22, 11, 11, 21, 10, 4, 9, 3, 2, 1, 0, 8, 7, 6, 5, 20, 11, 15, 19, 11, 14, 11, 13, 11, 12, 11, 11, 10, 4, 9, 3, 2, 1, 0, 8, 7, 6, 5, 10, 4, 9, 3, 2, 1, 0, 8, 7, 6, 5, 10, 4, 9, 3, 2, 1, 0, 8, 7, 6, 5, 10, 4, 9, 3, 2, 1, 0, 8, 7, 6, 5, 18, 11, 17, 11, 16, 11, 11, 10, 4, 9, 3, 2, 1, 0, 8, 7, 6, 5, 10, 4, 9, 3, 2, 1, 0, 8, 7, 6, 5, 10, 4, 9, 3, 2, 1, 0, 8, 7, 6, 5, 10, 4, 9, 3, 2, 1, 0, 8, 7, 6, 5, 10, 4, 9, 3, 2, 1, 0, 8, 7, 6, 5, 10, 4, 9, 3, 2, 1, 0, 8, 7, 6, 5, 10, 4, 9, 3, 2, 1, 0, 8, 7, 6, 5, 31, 23, 30, 23, 29, 23, 28, 23, 23, 22, 11, 11, 21, 10, 4, 9, 3, 2, 1, 0, 8, 7, 6, 5, 20, 11, 15, 19, 11, 14, 11, 13, 11, 12, 11, 11, 10, 4, 9, 3, 2, 1, 0, 8, 7, 6, 5, 10, 4, 9, 3, 2, 1, 0, 8, 7, 6, 5, 10, 4, 9, 3, 2, 1, 0, 8, 7, 6, 5, 10, 4, 9, 3, 2, 1, 0, 8, 7, 6, 5, 18, 11, 17, 11, 16, 11, 11, 10, 4, 9, 3, 2, 1, 0, 8, 7, 6, 5, 10, 4, 9, 3, 2, 1, 0, 8, 7, 6, 5, 10, 4, 9, 3, 2, 1, 0, 8, 7, 6, 5, 10, 4, 9, 3, 2, 1, 0, 8, 7, 6, 5, 10, 4, 9, 3, 2, 1, 0, 8, 7, 6, 5, 10, 4, 9, 3, 2, 1, 0, 8, 7, 6, 5, 10, 4, 9, 3, 2, 1, 0, 8, 7, 6, 5, 22, 11, 11, 21, 10, 4, 9, 3, 2, 1, 0, 8, 7, 6, 5, 20, 11, 15, 19, 11, 14, 11, 13, 11, 12, 11, 11, 10, 4, 9, 3, 2, 1, 0, 8, 7, 6, 5, 10, 4, 9, 3, 2, 1, 0, 8, 7, 6, 5, 10, 4, 9, 3, 2, 1, 0, 8, 7, 6, 5, 10, 4, 9, 3, 2, 1, 0, 8, 7, 6, 5, 18, 11, 17, 11, 16, 11, 11, 10, 4, 9, 3, 2, 1, 0, 8, 7, 6, 5, 10, 4, 9, 3, 2, 1, 0, 8, 7, 6, 5, 10, 4, 9, 3, 2, 1, 0, 8, 7, 6, 5, 10, 4, 9, 3, 2, 1, 0, 8, 7, 6, 5, 10, 4, 9, 3, 2, 1, 0, 8, 7, 6, 5, 10, 4, 9, 3, 2, 1, 0, 8, 7, 6, 5, 10, 4, 9, 3, 2, 1, 0, 8, 7, 6, 5, 22, 11, 11, 21, 10, 4, 9, 3, 2, 1, 0, 8, 7, 6, 5, 20, 11, 15, 19, 11, 14, 11, 13, 11, 12, 11, 11, 10, 4, 9, 3, 2, 1, 0, 8, 7, 6, 5, 10, 4, 9, 3, 2, 1, 0, 8, 7, 6, 5, 10, 4, 9, 3, 2, 1, 0, 8, 7, 6, 5, 10, 4, 9, 3, 2, 1, 0, 8, 7, 6, 5, 18, 11, 17, 11, 16, 11, 11, 10, 4, 9, 3, 2, 1, 0, 8, 7, 6, 5, 10, 4, 9, 3, 2, 1, 0, 8, 7, 6, 5, 10, 4, 9, 3, 2, 1, 0, 8, 7, 6, 5, 10, 4, 9, 3, 2, 1, 0, 8, 7, 6, 5, 10, 4, 9, 3, 2, 1, 0, 8, 7, 6, 5, 10, 4, 9, 3, 2, 1, 0, 8, 7, 6, 5, 10, 4, 9, 3, 2, 1, 0, 8, 7, 6, 5, 22, 11, 11, 21, 10, 4, 9, 3, 2, 1, 0, 8, 7, 6, 5, 20, 11, 15, 19, 11, 14, 11, 13, 11, 12, 11, 11, 10, 4, 9, 3, 2, 1, 0, 8, 7, 6, 5, 10, 4, 9, 3, 2, 1, 0, 8, 7, 6, 5, 10, 4, 9, 3, 2, 1, 0, 8, 7, 6, 5, 10, 4, 9, 3, 2, 1, 0, 8, 7, 6, 5, 18, 11, 17, 11, 16, 11, 11, 10, 4, 9, 3, 2, 1, 0, 8, 7, 6, 5, 10, 4, 9, 3, 2, 1, 0, 8, 7, 6, 5, 10, 4, 9, 3, 2, 1, 0, 8, 7, 6, 5, 10, 4, 9, 3, 2, 1, 0, 8, 7, 6, 5, 10, 4, 9, 3, 2, 1, 0, 8, 7, 6, 5, 10, 4, 9, 3, 2, 1, 0, 8, 7, 6, 5, 10, 4, 9, 3, 2, 1, 0, 8, 7, 6, 5, 22, 11, 11, 21, 10, 4, 9, 3, 2, 1, 0, 8, 7, 6, 5, 20, 11, 15, 19, 11, 14, 11, 13, 11, 12, 11, 11, 10, 4, 9, 3, 2, 1, 0, 8, 7, 6, 5, 10, 4, 9, 3, 2, 1, 0, 8, 7, 6, 5, 10, 4, 9, 3, 2, 1, 0, 8, 7, 6, 5, 10, 4, 9, 3, 2, 1, 0, 8, 7, 6, 5, 18, 11, 17, 11, 16, 11, 11, 10, 4, 9, 3, 2, 1, 0, 8, 7, 6, 5, 10, 4, 9, 3, 2, 1, 0, 8, 7, 6, 5, 10, 4, 9, 3, 2, 1, 0, 8, 7, 6, 5, 10, 4, 9, 3, 2, 1, 0, 8, 7, 6, 5, 10, 4, 9, 3, 2, 1, 0, 8, 7, 6, 5, 10, 4, 9, 3, 2, 1, 0, 8, 7, 6, 5, 10, 4, 9, 3, 2, 1, 0, 8, 7, 6, 5, 27, 32, 23, 26, 23, 25, 23, 24, 23, 23, 22, 11, 11, 21, 10, 4, 9, 3, 2, 1, 0, 8, 7, 6, 5, 20, 11, 15, 19, 11, 14, 11, 13, 11, 12, 11, 11, 10, 4, 9, 3, 2, 1, 0, 8, 7, 6, 5, 10, 4, 9, 3, 2, 1, 0, 8, 7, 6, 5, 10, 4, 9, 3, 2, 1, 0, 8, 7, 6, 5, 10, 4, 9, 3, 2, 1, 0, 8, 7, 6, 5, 18, 11, 17, 11, 16, 11, 11, 10, 4, 9, 3, 2, 1, 0, 8, 7, 6, 5, 10, 4, 9, 3, 2, 1, 0, 8, 7, 6, 5, 10, 4, 9, 3, 2, 1, 0, 8, 7, 6, 5, 10, 4, 9, 3, 2, 1, 0, 8, 7, 6, 5, 10, 4, 9, 3, 2, 1, 0, 8, 7, 6, 5, 10, 4, 9, 3, 2, 1, 0, 8, 7, 6, 5, 10, 4, 9, 3, 2, 1, 0, 8, 7, 6, 5, 22, 11, 11, 21, 10, 4, 9, 3, 2, 1, 0, 8, 7, 6, 5, 20, 11, 15, 19, 11, 14, 11, 13, 11, 12, 11, 11, 10, 4, 9, 3, 2, 1, 0, 8, 7, 6, 5, 10, 4, 9, 3, 2, 1, 0, 8, 7, 6, 5, 10, 4, 9, 3, 2, 1, 0, 8, 7, 6, 5, 10, 4, 9, 3, 2, 1, 0, 8, 7, 6, 5, 18, 11, 17, 11, 16, 11, 11, 10, 4, 9, 3, 2, 1, 0, 8, 7, 6, 5, 10, 4, 9, 3, 2, 1, 0, 8, 7, 6, 5, 10, 4, 9, 3, 2, 1, 0, 8, 7, 6, 5, 10, 4, 9, 3, 2, 1, 0, 8, 7, 6, 5, 10, 4, 9, 3, 2, 1, 0, 8, 7, 6, 5, 10, 4, 9, 3, 2, 1, 0, 8, 7, 6, 5, 10, 4, 9, 3, 2, 1, 0, 8, 7, 6, 5, 22, 11, 11, 21, 10, 4, 9, 3, 2, 1, 0, 8, 7, 6, 5, 20, 11, 15, 19, 11, 14, 11, 13, 11, 12, 11, 11, 10, 4, 9, 3, 2, 1, 0, 8, 7, 6, 5, 10, 4, 9, 3, 2, 1, 0, 8, 7, 6, 5, 10, 4, 9, 3, 2, 1, 0, 8, 7, 6, 5, 10, 4, 9, 3, 2, 1, 0, 8, 7, 6, 5, 18, 11, 17, 11, 16, 11, 11, 10, 4, 9, 3, 2, 1, 0, 8, 7, 6, 5, 10, 4, 9, 3, 2, 1, 0, 8, 7, 6, 5, 10, 4, 9, 3, 2, 1, 0, 8, 7, 6, 5, 10, 4, 9, 3, 2, 1, 0, 8, 7, 6, 5, 10, 4, 9, 3, 2, 1, 0, 8, 7, 6, 5, 10, 4, 9, 3, 2, 1, 0, 8, 7, 6, 5, 10, 4, 9, 3, 2, 1, 0, 8, 7, 6, 5, 22, 11, 11, 21, 10, 4, 9, 3, 2, 1, 0, 8, 7, 6, 5, 20, 11, 15, 19, 11, 14, 11, 13, 11, 12, 11, 11, 10, 4, 9, 3, 2, 1, 0, 8, 7, 6, 5, 10, 4, 9, 3, 2, 1, 0, 8, 7, 6, 5, 10, 4, 9, 3, 2, 1, 0, 8, 7, 6, 5, 10, 4, 9, 3, 2, 1, 0, 8, 7, 6, 5, 18, 11, 17, 11, 16, 11, 11, 10, 4, 9, 3, 2, 1, 0, 8, 7, 6, 5, 10, 4, 9, 3, 2, 1, 0, 8, 7, 6, 5, 10, 4, 9, 3, 2, 1, 0, 8, 7, 6, 5, 10, 4, 9, 3, 2, 1, 0, 8, 7, 6, 5, 10, 4, 9, 3, 2, 1, 0, 8, 7, 6, 5, 10, 4, 9, 3, 2, 1, 0, 8, 7, 6, 5, 10, 4, 9, 3, 2, 1, 0, 8, 7, 6, 5, 31, 23, 30, 23, 29, 23, 28, 23, 23, 22, 11, 11, 21, 10, 4, 9, 3, 2, 1, 0, 8, 7, 6, 5, 20, 11, 15, 19, 11, 14, 11, 13, 11, 12, 11, 11, 10, 4, 9, 3, 2, 1, 0, 8, 7, 6, 5, 10, 4, 9, 3, 2, 1, 0, 8, 7, 6, 5, 10, 4, 9, 3, 2, 1, 0, 8, 7, 6, 5, 10, 4, 9, 3, 2, 1, 0, 8, 7, 6, 5, 18, 11, 17, 11, 16, 11, 11, 10, 4, 9, 3, 2, 1, 0, 8, 7, 6, 5, 10, 4, 9, 3, 2, 1, 0, 8, 7, 6, 5, 10, 4, 9, 3, 2, 1, 0, 8, 7, 6, 5, 10, 4, 9, 3, 2, 1, 0, 8, 7, 6, 5, 10, 4, 9, 3, 2, 1, 0, 8, 7, 6, 5, 10, 4, 9, 3, 2, 1, 0, 8, 7, 6, 5, 10, 4, 9, 3, 2, 1, 0, 8, 7, 6, 5, 22, 11, 11, 21, 10, 4, 9, 3, 2, 1, 0, 8, 7, 6, 5, 20, 11, 15, 19, 11, 14, 11, 13, 11, 12, 11, 11, 10, 4, 9, 3, 2, 1, 0, 8, 7, 6, 5, 10, 4, 9, 3, 2, 1, 0, 8, 7, 6, 5, 10, 4, 9, 3, 2, 1, 0, 8, 7, 6, 5, 10, 4, 9, 3, 2, 1, 0, 8, 7, 6, 5, 18, 11, 17, 11, 16, 11, 11, 10, 4, 9, 3, 2, 1, 0, 8, 7, 6, 5, 10, 4, 9, 3, 2, 1, 0, 8, 7, 6, 5, 10, 4, 9, 3, 2, 1, 0, 8, 7, 6, 5, 10, 4, 9, 3, 2, 1, 0, 8, 7, 6, 5, 10, 4, 9, 3, 2, 1, 0, 8, 7, 6, 5, 10, 4, 9, 3, 2, 1, 0, 8, 7, 6, 5, 10, 4, 9, 3, 2, 1, 0, 8, 7, 6, 5, 22, 11, 11, 21, 10, 4, 9, 3, 2, 1, 0, 8, 7, 6, 5, 20, 11, 15, 19, 11, 14, 11, 13, 11, 12, 11, 11, 10, 4, 9, 3, 2, 1, 0, 8, 7, 6, 5, 10, 4, 9, 3, 2, 1, 0, 8, 7, 6, 5, 10, 4, 9, 3, 2, 1, 0, 8, 7, 6, 5, 10, 4, 9, 3, 2, 1, 0, 8, 7, 6, 5, 18, 11, 17, 11, 16, 11, 11, 10, 4, 9, 3, 2, 1, 0, 8, 7, 6, 5, 10, 4, 9, 3, 2, 1, 0, 8, 7, 6, 5, 10, 4, 9, 3, 2, 1, 0, 8, 7, 6, 5, 10, 4, 9, 3, 2, 1, 0, 8, 7, 6, 5, 10, 4, 9, 3, 2, 1, 0, 8, 7, 6, 5, 10, 4, 9, 3, 2, 1, 0, 8, 7, 6, 5, 10, 4, 9, 3, 2, 1, 0, 8, 7, 6, 5, 22, 11, 11, 21, 10, 4, 9, 3, 2, 1, 0, 8, 7, 6, 5, 20, 11, 15, 19, 11, 14, 11, 13, 11, 12, 11, 11, 10, 4, 9, 3, 2, 1, 0, 8, 7, 6, 5, 10, 4, 9, 3, 2, 1, 0, 8, 7, 6, 5, 10, 4, 9, 3, 2, 1, 0, 8, 7, 6, 5, 10, 4, 9, 3, 2, 1, 0, 8, 7, 6, 5, 18, 11, 17, 11, 16, 11, 11, 10, 4, 9, 3, 2, 1, 0, 8, 7, 6, 5, 10, 4, 9, 3, 2, 1, 0, 8, 7, 6, 5, 10, 4, 9, 3, 2, 1, 0, 8, 7, 6, 5, 10, 4, 9, 3, 2, 1, 0, 8, 7, 6, 5, 10, 4, 9, 3, 2, 1, 0, 8, 7, 6, 5, 10, 4, 9, 3, 2, 1, 0, 8, 7, 6, 5, 10, 4, 9, 3, 2, 1, 0, 8, 7, 6, 5, 22, 11, 11, 21, 10, 4, 9, 3, 2, 1, 0, 8, 7, 6, 5, 20, 11, 15, 19, 11, 14, 11, 13, 11, 12, 11, 11, 10, 4, 9, 3, 2, 1, 0, 8, 7, 6, 5, 10, 4, 9, 3, 2, 1, 0, 8, 7, 6, 5, 10, 4, 9, 3, 2, 1, 0, 8, 7, 6, 5, 10, 4, 9, 3, 2, 1, 0, 8, 7, 6, 5, 18, 11, 17, 11, 16, 11, 11, 10, 4, 9, 3, 2, 1, 0, 8, 7, 6, 5, 10, 4, 9, 3, 2, 1, 0, 8, 7, 6, 5, 10, 4, 9, 3, 2, 1, 0, 8, 7, 6, 5, 10, 4, 9, 3, 2, 1, 0, 8, 7, 6, 5, 10, 4, 9, 3, 2, 1, 0, 8, 7, 6, 5, 10, 4, 9, 3, 2, 1, 0, 8, 7, 6, 5, 10, 4, 9, 3, 2, 1, 0, 8, 7, 6, 5, 22, 11, 11, 21, 10, 4, 9, 3, 2, 1, 0, 8, 7, 6, 5, 20, 11, 15, 19, 11, 14, 11, 13, 11, 12, 11, 11, 10, 4, 9, 3, 2, 1, 0, 8, 7, 6, 5, 10, 4, 9, 3, 2, 1, 0, 8, 7, 6, 5, 10, 4, 9, 3, 2, 1, 0, 8, 7, 6, 5, 10, 4, 9, 3, 2, 1, 0, 8, 7, 6, 5, 18, 11, 17, 11, 16, 11, 11, 10, 4, 9, 3, 2, 1, 0, 8, 7, 6, 5, 10, 4, 9, 3, 2, 1, 0, 8, 7, 6, 5, 10, 4, 9, 3, 2, 1, 0, 8, 7, 6, 5, 10, 4, 9, 3, 2, 1, 0, 8, 7, 6, 5, 10, 4, 9, 3, 2, 1, 0, 8, 7, 6, 5, 10, 4, 9, 3, 2, 1, 0, 8, 7, 6, 5, 10, 4, 9, 3, 2, 1, 0, 8, 7, 6, 5, 33, 23, 27, 32, 23, 26, 23, 25, 23, 24, 23, 23, 22, 11, 11, 21, 10, 4, 9, 3, 2, 1, 0, 8, 7, 6, 5, 20, 11, 15, 19, 11, 14, 11, 13, 11, 12, 11, 11, 10, 4, 9, 3, 2, 1, 0, 8, 7, 6, 5, 10, 4, 9, 3, 2, 1, 0, 8, 7, 6, 5, 10, 4, 9, 3, 2, 1, 0, 8, 7, 6, 5, 10, 4, 9, 3, 2, 1, 0, 8, 7, 6, 5, 18, 11, 17, 11, 16, 11, 11, 10, 4, 9, 3, 2, 1, 0, 8, 7, 6, 5, 10, 4, 9, 3, 2, 1, 0, 8, 7, 6, 5, 10, 4, 9, 3, 2, 1, 0, 8, 7, 6, 5, 10, 4, 9, 3, 2, 1, 0, 8, 7, 6, 5, 10, 4, 9, 3, 2, 1, 0, 8, 7, 6, 5, 10, 4, 9, 3, 2, 1, 0, 8, 7, 6, 5, 10, 4, 9, 3, 2, 1, 0, 8, 7, 6, 5, 22, 11, 11, 21, 10, 4, 9, 3, 2, 1, 0, 8, 7, 6, 5, 20, 11, 15, 19, 11, 14, 11, 13, 11, 12, 11, 11, 10, 4, 9, 3, 2, 1, 0, 8, 7, 6, 5, 10, 4, 9, 3, 2, 1, 0, 8, 7, 6, 5, 10, 4, 9, 3, 2, 1, 0, 8, 7, 6, 5, 10, 4, 9, 3, 2, 1, 0, 8, 7, 6, 5, 18, 11, 17, 11, 16, 11, 11, 10, 4, 9, 3, 2, 1, 0, 8, 7, 6, 5, 10, 4, 9, 3, 2, 1, 0, 8, 7, 6, 5, 10, 4, 9, 3, 2, 1, 0, 8, 7, 6, 5, 10, 4, 9, 3, 2, 1, 0, 8, 7, 6, 5, 10, 4, 9, 3, 2, 1, 0, 8, 7, 6, 5, 10, 4, 9, 3, 2, 1, 0, 8, 7, 6, 5, 10, 4, 9, 3, 2, 1, 0, 8, 7, 6, 5, 22, 11, 11, 21, 10, 4, 9, 3, 2, 1, 0, 8, 7, 6, 5, 20, 11, 15, 19, 11, 14, 11, 13, 11, 12, 11, 11, 10, 4, 9, 3, 2, 1, 0, 8, 7, 6, 5, 10, 4, 9, 3, 2, 1, 0, 8, 7, 6, 5, 10, 4, 9, 3, 2, 1, 0, 8, 7, 6, 5, 10, 4, 9, 3, 2, 1, 0, 8, 7, 6, 5, 18, 11, 17, 11, 16, 11, 11, 10, 4, 9, 3, 2, 1, 0, 8, 7, 6, 5, 10, 4, 9, 3, 2, 1, 0, 8, 7, 6, 5, 10, 4, 9, 3, 2, 1, 0, 8, 7, 6, 5, 10, 4, 9, 3, 2, 1, 0, 8, 7, 6, 5, 10, 4, 9, 3, 2, 1, 0, 8, 7, 6, 5, 10, 4, 9, 3, 2, 1, 0, 8, 7, 6, 5, 10, 4, 9, 3, 2, 1, 0, 8, 7, 6, 5, 22, 11, 11, 21, 10, 4, 9, 3, 2, 1, 0, 8, 7, 6, 5, 20, 11, 15, 19, 11, 14, 11, 13, 11, 12, 11, 11, 10, 4, 9, 3, 2, 1, 0, 8, 7, 6, 5, 10, 4, 9, 3, 2, 1, 0, 8, 7, 6, 5, 10, 4, 9, 3, 2, 1, 0, 8, 7, 6, 5, 10, 4, 9, 3, 2, 1, 0, 8, 7, 6, 5, 18, 11, 17, 11, 16, 11, 11, 10, 4, 9, 3, 2, 1, 0, 8, 7, 6, 5, 10, 4, 9, 3, 2, 1, 0, 8, 7, 6, 5, 10, 4, 9, 3, 2, 1, 0, 8, 7, 6, 5, 10, 4, 9, 3, 2, 1, 0, 8, 7, 6, 5, 10, 4, 9, 3, 2, 1, 0, 8, 7, 6, 5, 10, 4, 9, 3, 2, 1, 0, 8, 7, 6, 5, 10, 4, 9, 3, 2, 1, 0, 8, 7, 6, 5, 31, 23, 30, 23, 29, 23, 28, 23, 23, 22, 11, 11, 21, 10, 4, 9, 3, 2, 1, 0, 8, 7, 6, 5, 20, 11, 15, 19, 11, 14, 11, 13, 11, 12, 11, 11, 10, 4, 9, 3, 2, 1, 0, 8, 7, 6, 5, 10, 4, 9, 3, 2, 1, 0, 8, 7, 6, 5, 10, 4, 9, 3, 2, 1, 0, 8, 7, 6, 5, 10, 4, 9, 3, 2, 1, 0, 8, 7, 6, 5, 18, 11, 17, 11, 16, 11, 11, 10, 4, 9, 3, 2, 1, 0, 8, 7, 6, 5, 10, 4, 9, 3, 2, 1, 0, 8, 7, 6, 5, 10, 4, 9, 3, 2, 1, 0, 8, 7, 6, 5, 10, 4, 9, 3, 2, 1, 0, 8, 7, 6, 5, 10, 4, 9, 3, 2, 1, 0, 8, 7, 6, 5, 10, 4, 9, 3, 2, 1, 0, 8, 7, 6, 5, 10, 4, 9, 3, 2, 1, 0, 8, 7, 6, 5, 22, 11, 11, 21, 10, 4, 9, 3, 2, 1, 0, 8, 7, 6, 5, 20, 11, 15, 19, 11, 14, 11, 13, 11, 12, 11, 11, 10, 4, 9, 3, 2, 1, 0, 8, 7, 6, 5, 10, 4, 9, 3, 2, 1, 0, 8, 7, 6, 5, 10, 4, 9, 3, 2, 1, 0, 8, 7, 6, 5, 10, 4, 9, 3, 2, 1, 0, 8, 7, 6, 5, 18, 11, 17, 11, 16, 11, 11, 10, 4, 9, 3, 2, 1, 0, 8, 7, 6, 5, 10, 4, 9, 3, 2, 1, 0, 8, 7, 6, 5, 10, 4, 9, 3, 2, 1, 0, 8, 7, 6, 5, 10, 4, 9, 3, 2, 1, 0, 8, 7, 6, 5, 10, 4, 9, 3, 2, 1, 0, 8, 7, 6, 5, 10, 4, 9, 3, 2, 1, 0, 8, 7, 6, 5, 10, 4, 9, 3, 2, 1, 0, 8, 7, 6, 5, 22, 11, 11, 21, 10, 4, 9, 3, 2, 1, 0, 8, 7, 6, 5, 20, 11, 15, 19, 11, 14, 11, 13, 11, 12, 11, 11, 10, 4, 9, 3, 2, 1, 0, 8, 7, 6, 5, 10, 4, 9, 3, 2, 1, 0, 8, 7, 6, 5, 10, 4, 9, 3, 2, 1, 0, 8, 7, 6, 5, 10, 4, 9, 3, 2, 1, 0, 8, 7, 6, 5, 18, 11, 17, 11, 16, 11, 11, 10, 4, 9, 3, 2, 1, 0, 8, 7, 6, 5, 10, 4, 9, 3, 2, 1, 0, 8, 7, 6, 5, 10, 4, 9, 3, 2, 1, 0, 8, 7, 6, 5, 10, 4, 9, 3, 2, 1, 0, 8, 7, 6, 5, 10, 4, 9, 3, 2, 1, 0, 8, 7, 6, 5, 10, 4, 9, 3, 2, 1, 0, 8, 7, 6, 5, 10, 4, 9, 3, 2, 1, 0, 8, 7, 6, 5, 22, 11, 11, 21, 10, 4, 9, 3, 2, 1, 0, 8, 7, 6, 5, 20, 11, 15, 19, 11, 14, 11, 13, 11, 12, 11, 11, 10, 4, 9, 3, 2, 1, 0, 8, 7, 6, 5, 10, 4, 9, 3, 2, 1, 0, 8, 7, 6, 5, 10, 4, 9, 3, 2, 1, 0, 8, 7, 6, 5, 10, 4, 9, 3, 2, 1, 0, 8, 7, 6, 5, 18, 11, 17, 11, 16, 11, 11, 10, 4, 9, 3, 2, 1, 0, 8, 7, 6, 5, 10, 4, 9, 3, 2, 1, 0, 8, 7, 6, 5, 10, 4, 9, 3, 2, 1, 0, 8, 7, 6, 5, 10, 4, 9, 3, 2, 1, 0, 8, 7, 6, 5, 10, 4, 9, 3, 2, 1, 0, 8, 7, 6, 5, 10, 4, 9, 3, 2, 1, 0, 8, 7, 6, 5, 10, 4, 9, 3, 2, 1, 0, 8, 7, 6, 5, 22, 11, 11, 21, 10, 4, 9, 3, 2, 1, 0, 8, 7, 6, 5, 20, 11, 15, 19, 11, 14, 11, 13, 11, 12, 11, 11, 10, 4, 9, 3, 2, 1, 0, 8, 7, 6, 5, 10, 4, 9, 3, 2, 1, 0, 8, 7, 6, 5, 10, 4, 9, 3, 2, 1, 0, 8, 7, 6, 5, 10, 4, 9, 3, 2, 1, 0, 8, 7, 6, 5, 18, 11, 17, 11, 16, 11, 11, 10, 4, 9, 3, 2, 1, 0, 8, 7, 6, 5, 10, 4, 9, 3, 2, 1, 0, 8, 7, 6, 5, 10, 4, 9, 3, 2, 1, 0, 8, 7, 6, 5, 10, 4, 9, 3, 2, 1, 0, 8, 7, 6, 5, 10, 4, 9, 3, 2, 1, 0, 8, 7, 6, 5, 10, 4, 9, 3, 2, 1, 0, 8, 7, 6, 5, 10, 4, 9, 3, 2, 1, 0, 8, 7, 6, 5, 22, 11, 11, 21, 10, 4, 9, 3, 2, 1, 0, 8, 7, 6, 5, 20, 11, 15, 19, 11, 14, 11, 13, 11, 12, 11, 11, 10, 4, 9, 3, 2, 1, 0, 8, 7, 6, 5, 10, 4, 9, 3, 2, 1, 0, 8, 7, 6, 5, 10, 4, 9, 3, 2, 1, 0, 8, 7, 6, 5, 10, 4, 9, 3, 2, 1, 0, 8, 7, 6, 5, 18, 11, 17, 11, 16, 11, 11, 10, 4, 9, 3, 2, 1, 0, 8, 7, 6, 5, 10, 4, 9, 3, 2, 1, 0, 8, 7, 6, 5, 10, 4, 9, 3, 2, 1, 0, 8, 7, 6, 5, 10, 4, 9, 3, 2, 1, 0, 8, 7, 6, 5, 10, 4, 9, 3, 2, 1, 0, 8, 7, 6, 5, 10, 4, 9, 3, 2, 1, 0, 8, 7, 6, 5, 10, 4, 9, 3, 2, 1, 0, 8, 7, 6, 5, 22, 11, 11, 21, 10, 4, 9, 3, 2, 1, 0, 8, 7, 6, 5, 20, 11, 15, 19, 11, 14, 11, 13, 11, 12, 11, 11, 10, 4, 9, 3, 2, 1, 0, 8, 7, 6, 5, 10, 4, 9, 3, 2, 1, 0, 8, 7, 6, 5, 10, 4, 9, 3, 2, 1, 0, 8, 7, 6, 5, 10, 4, 9, 3, 2, 1, 0, 8, 7, 6, 5, 18, 11, 17, 11, 16, 11, 11, 10, 4, 9, 3, 2, 1, 0, 8, 7, 6, 5, 10, 4, 9, 3, 2, 1, 0, 8, 7, 6, 5, 10, 4, 9, 3, 2, 1, 0, 8, 7, 6, 5, 10, 4, 9, 3, 2, 1, 0, 8, 7, 6, 5, 10, 4, 9, 3, 2, 1, 0, 8, 7, 6, 5, 10, 4, 9, 3, 2, 1, 0, 8, 7, 6, 5, 10, 4, 9, 3, 2, 1, 0, 8, 7, 6, 5, 23, 34, 22, 11, 11, 21, 10, 4, 9, 3, 2, 1, 0, 8, 7, 6, 5, 20, 11, 15, 19, 11, 14, 11, 13, 11, 12, 11, 11, 10, 4, 9, 3, 2, 1, 0, 8, 7, 6, 5, 10, 4, 9, 3, 2, 1, 0, 8, 7, 6, 5, 10, 4, 9, 3, 2, 1, 0, 8, 7, 6, 5, 10, 4, 9, 3, 2, 1, 0, 8, 7, 6, 5, 18, 11, 17, 11, 16, 11, 11, 10, 4, 9, 3, 2, 1, 0, 8, 7, 6, 5, 10, 4, 9, 3, 2, 1, 0, 8, 7, 6, 5, 10, 4, 9, 3, 2, 1, 0, 8, 7, 6, 5, 10, 4, 9, 3, 2, 1, 0, 8, 7, 6, 5, 10, 4, 9, 3, 2, 1, 0, 8, 7, 6, 5, 10, 4, 9, 3, 2, 1, 0, 8, 7, 6, 5, 10, 4, 9, 3, 2, 1, 0, 8, 7, 6, 5, 33, 23, 27, 32, 23, 26, 23, 25, 23, 24, 23, 23, 22, 11, 11, 21, 10, 4, 9, 3, 2, 1, 0, 8, 7, 6, 5, 20, 11, 15, 19, 11, 14, 11, 13, 11, 12, 11, 11, 10, 4, 9, 3, 2, 1, 0, 8, 7, 6, 5, 10, 4, 9, 3, 2, 1, 0, 8, 7, 6, 5, 10, 4, 9, 3, 2, 1, 0, 8, 7, 6, 5, 10, 4, 9, 3, 2, 1, 0, 8, 7, 6, 5, 18, 11, 17, 11, 16, 11, 11, 10, 4, 9, 3, 2, 1, 0, 8, 7, 6, 5, 10, 4, 9, 3, 2, 1, 0, 8, 7, 6, 5, 10, 4, 9, 3, 2, 1, 0, 8, 7, 6, 5, 10, 4, 9, 3, 2, 1, 0, 8, 7, 6, 5, 10, 4, 9, 3, 2, 1, 0, 8, 7, 6, 5, 10, 4, 9, 3, 2, 1, 0, 8, 7, 6, 5, 10, 4, 9, 3, 2, 1, 0, 8, 7, 6, 5, 22, 11, 11, 21, 10, 4, 9, 3, 2, 1, 0, 8, 7, 6, 5, 20, 11, 15, 19, 11, 14, 11, 13, 11, 12, 11, 11, 10, 4, 9, 3, 2, 1, 0, 8, 7, 6, 5, 10, 4, 9, 3, 2, 1, 0, 8, 7, 6, 5, 10, 4, 9, 3, 2, 1, 0, 8, 7, 6, 5, 10, 4, 9, 3, 2, 1, 0, 8, 7, 6, 5, 18, 11, 17, 11, 16, 11, 11, 10, 4, 9, 3, 2, 1, 0, 8, 7, 6, 5, 10, 4, 9, 3, 2, 1, 0, 8, 7, 6, 5, 10, 4, 9, 3, 2, 1, 0, 8, 7, 6, 5, 10, 4, 9, 3, 2, 1, 0, 8, 7, 6, 5, 10, 4, 9, 3, 2, 1, 0, 8, 7, 6, 5, 10, 4, 9, 3, 2, 1, 0, 8, 7, 6, 5, 10, 4, 9, 3, 2, 1, 0, 8, 7, 6, 5, 22, 11, 11, 21, 10, 4, 9, 3, 2, 1, 0, 8, 7, 6, 5, 20, 11, 15, 19, 11, 14, 11, 13, 11, 12, 11, 11, 10, 4, 9, 3, 2, 1, 0, 8, 7, 6, 5, 10, 4, 9, 3, 2, 1, 0, 8, 7, 6, 5, 10, 4, 9, 3, 2, 1, 0, 8, 7, 6, 5, 10, 4, 9, 3, 2, 1, 0, 8, 7, 6, 5, 18, 11, 17, 11, 16, 11, 11, 10, 4, 9, 3, 2, 1, 0, 8, 7, 6, 5, 10, 4, 9, 3, 2, 1, 0, 8, 7, 6, 5, 10, 4, 9, 3, 2, 1, 0, 8, 7, 6, 5, 10, 4, 9, 3, 2, 1, 0, 8, 7, 6, 5, 10, 4, 9, 3, 2, 1, 0, 8, 7, 6, 5, 10, 4, 9, 3, 2, 1, 0, 8, 7, 6, 5, 10, 4, 9, 3, 2, 1, 0, 8, 7, 6, 5, 22, 11, 11, 21, 10, 4, 9, 3, 2, 1, 0, 8, 7, 6, 5, 20, 11, 15, 19, 11, 14, 11, 13, 11, 12, 11, 11, 10, 4, 9, 3, 2, 1, 0, 8, 7, 6, 5, 10, 4, 9, 3, 2, 1, 0, 8, 7, 6, 5, 10, 4, 9, 3, 2, 1, 0, 8, 7, 6, 5, 10, 4, 9, 3, 2, 1, 0, 8, 7, 6, 5, 18, 11, 17, 11, 16, 11, 11, 10, 4, 9, 3, 2, 1, 0, 8, 7, 6, 5, 10, 4, 9, 3, 2, 1, 0, 8, 7, 6, 5, 10, 4, 9, 3, 2, 1, 0, 8, 7, 6, 5, 10, 4, 9, 3, 2, 1, 0, 8, 7, 6, 5, 10, 4, 9, 3, 2, 1, 0, 8, 7, 6, 5, 10, 4, 9, 3, 2, 1, 0, 8, 7, 6, 5, 10, 4, 9, 3, 2, 1, 0, 8, 7, 6, 5, 31, 23, 30, 23, 29, 23, 28, 23, 23, 22, 11, 11, 21, 10, 4, 9, 3, 2, 1, 0, 8, 7, 6, 5, 20, 11, 15, 19, 11, 14, 11, 13, 11, 12, 11, 11, 10, 4, 9, 3, 2, 1, 0, 8, 7, 6, 5, 10, 4, 9, 3, 2, 1, 0, 8, 7, 6, 5, 10, 4, 9, 3, 2, 1, 0, 8, 7, 6, 5, 10, 4, 9, 3, 2, 1, 0, 8, 7, 6, 5, 18, 11, 17, 11, 16, 11, 11, 10, 4, 9, 3, 2, 1, 0, 8, 7, 6, 5, 10, 4, 9, 3, 2, 1, 0, 8, 7, 6, 5, 10, 4, 9, 3, 2, 1, 0, 8, 7, 6, 5, 10, 4, 9, 3, 2, 1, 0, 8, 7, 6, 5, 10, 4, 9, 3, 2, 1, 0, 8, 7, 6, 5, 10, 4, 9, 3, 2, 1, 0, 8, 7, 6, 5, 10, 4, 9, 3, 2, 1, 0, 8, 7, 6, 5, 22, 11, 11, 21, 10, 4, 9, 3, 2, 1, 0, 8, 7, 6, 5, 20, 11, 15, 19, 11, 14, 11, 13, 11, 12, 11, 11, 10, 4, 9, 3, 2, 1, 0, 8, 7, 6, 5, 10, 4, 9, 3, 2, 1, 0, 8, 7, 6, 5, 10, 4, 9, 3, 2, 1, 0, 8, 7, 6, 5, 10, 4, 9, 3, 2, 1, 0, 8, 7, 6, 5, 18, 11, 17, 11, 16, 11, 11, 10, 4, 9, 3, 2, 1, 0, 8, 7, 6, 5, 10, 4, 9, 3, 2, 1, 0, 8, 7, 6, 5, 10, 4, 9, 3, 2, 1, 0, 8, 7, 6, 5, 10, 4, 9, 3, 2, 1, 0, 8, 7, 6, 5, 10, 4, 9, 3, 2, 1, 0, 8, 7, 6, 5, 10, 4, 9, 3, 2, 1, 0, 8, 7, 6, 5, 10, 4, 9, 3, 2, 1, 0, 8, 7, 6, 5, 22, 11, 11, 21, 10, 4, 9, 3, 2, 1, 0, 8, 7, 6, 5, 20, 11, 15, 19, 11, 14, 11, 13, 11, 12, 11, 11, 10, 4, 9, 3, 2, 1, 0, 8, 7, 6, 5, 10, 4, 9, 3, 2, 1, 0, 8, 7, 6, 5, 10, 4, 9, 3, 2, 1, 0, 8, 7, 6, 5, 10, 4, 9, 3, 2, 1, 0, 8, 7, 6, 5, 18, 11, 17, 11, 16, 11, 11, 10, 4, 9, 3, 2, 1, 0, 8, 7, 6, 5, 10, 4, 9, 3, 2, 1, 0, 8, 7, 6, 5, 10, 4, 9, 3, 2, 1, 0, 8, 7, 6, 5, 10, 4, 9, 3, 2, 1, 0, 8, 7, 6, 5, 10, 4, 9, 3, 2, 1, 0, 8, 7, 6, 5, 10, 4, 9, 3, 2, 1, 0, 8, 7, 6, 5, 10, 4, 9, 3, 2, 1, 0, 8, 7, 6, 5, 22, 11, 11, 21, 10, 4, 9, 3, 2, 1, 0, 8, 7, 6, 5, 20, 11, 15, 19, 11, 14, 11, 13, 11, 12, 11, 11, 10, 4, 9, 3, 2, 1, 0, 8, 7, 6, 5, 10, 4, 9, 3, 2, 1, 0, 8, 7, 6, 5, 10, 4, 9, 3, 2, 1, 0, 8, 7, 6, 5, 10, 4, 9, 3, 2, 1, 0, 8, 7, 6, 5, 18, 11, 17, 11, 16, 11, 11, 10, 4, 9, 3, 2, 1, 0, 8, 7, 6, 5, 10, 4, 9, 3, 2, 1, 0, 8, 7, 6, 5, 10, 4, 9, 3, 2, 1, 0, 8, 7, 6, 5, 10, 4, 9, 3, 2, 1, 0, 8, 7, 6, 5, 10, 4, 9, 3, 2, 1, 0, 8, 7, 6, 5, 10, 4, 9, 3, 2, 1, 0, 8, 7, 6, 5, 10, 4, 9, 3, 2, 1, 0, 8, 7, 6, 5, 22, 11, 11, 21, 10, 4, 9, 3, 2, 1, 0, 8, 7, 6, 5, 20, 11, 15, 19, 11, 14, 11, 13, 11, 12, 11, 11, 10, 4, 9, 3, 2, 1, 0, 8, 7, 6, 5, 10, 4, 9, 3, 2, 1, 0, 8, 7, 6, 5, 10, 4, 9, 3, 2, 1, 0, 8, 7, 6, 5, 10, 4, 9, 3, 2, 1, 0, 8, 7, 6, 5, 18, 11, 17, 11, 16, 11, 11, 10, 4, 9, 3, 2, 1, 0, 8, 7, 6, 5, 10, 4, 9, 3, 2, 1, 0, 8, 7, 6, 5, 10, 4, 9, 3, 2, 1, 0, 8, 7, 6, 5, 10, 4, 9, 3, 2, 1, 0, 8, 7, 6, 5, 10, 4, 9, 3, 2, 1, 0, 8, 7, 6, 5, 10, 4, 9, 3, 2, 1, 0, 8, 7, 6, 5, 10, 4, 9, 3, 2, 1, 0, 8, 7, 6, 5, 22, 11, 11, 21, 10, 4, 9, 3, 2, 1, 0, 8, 7, 6, 5, 20, 11, 15, 19, 11, 14, 11, 13, 11, 12, 11, 11, 10, 4, 9, 3, 2, 1, 0, 8, 7, 6, 5, 10, 4, 9, 3, 2, 1, 0, 8, 7, 6, 5, 10, 4, 9, 3, 2, 1, 0, 8, 7, 6, 5, 10, 4, 9, 3, 2, 1, 0, 8, 7, 6, 5, 18, 11, 17, 11, 16, 11, 11, 10, 4, 9, 3, 2, 1, 0, 8, 7, 6, 5, 10, 4, 9, 3, 2, 1, 0, 8, 7, 6, 5, 10, 4, 9, 3, 2, 1, 0, 8, 7, 6, 5, 10, 4, 9, 3, 2, 1, 0, 8, 7, 6, 5, 10, 4, 9, 3, 2, 1, 0, 8, 7, 6, 5, 10, 4, 9, 3, 2, 1, 0, 8, 7, 6, 5, 10, 4, 9, 3, 2, 1, 0, 8, 7, 6, 5, 22, 11, 11, 21, 10, 4, 9, 3, 2, 1, 0, 8, 7, 6, 5, 20, 11, 15, 19, 11, 14, 11, 13, 11, 12, 11, 11, 10, 4, 9, 3, 2, 1, 0, 8, 7, 6, 5, 10, 4, 9, 3, 2, 1, 0, 8, 7, 6, 5, 10, 4, 9, 3, 2, 1, 0, 8, 7, 6, 5, 10, 4, 9, 3, 2, 1, 0, 8, 7, 6, 5, 18, 11, 17, 11, 16, 11, 11, 10, 4, 9, 3, 2, 1, 0, 8, 7, 6, 5, 10, 4, 9, 3, 2, 1, 0, 8, 7, 6, 5, 10, 4, 9, 3, 2, 1, 0, 8, 7, 6, 5, 10, 4, 9, 3, 2, 1, 0, 8, 7, 6, 5, 10, 4, 9, 3, 2, 1, 0, 8, 7, 6, 5, 10, 4, 9, 3, 2, 1, 0, 8, 7, 6, 5, 10, 4, 9, 3, 2, 1, 0, 8, 7, 6, 5]])
 .ret))
def f195 : PFn := ⟨1, [.t 2], b195, false, true⟩
def b196 : PCode := (.seq (.ops [a 4 (.mov (.k (.bool false)))])
 (.seq (.dops [m 5 0,
  a 6 (.idxArr 256 1 (T 1) (T 5)),
  l 7 6,
  l 8 2,
  a 9 (.eqb true (T 7) (T 8)),
  m 4 9] [[], [0], [1, 0], [], [2, 3, 1, 0], [4, 0, 1, 2, 3, 4, 2, 3, 1, 0, 0, 1, 0, 2, 3, 1, 0]])
 .ret))
def f196 : PFn := ⟨3, [.t 4], b196, false, true⟩
def b197 : PCode := (.seq (.ops [a 2 (.mov (.k (.bool false)))])
 (.seq (.ops [m 3 0,
  a 4 (.bin .leq (.k (.int .u8 (.ofNat 48))) (T 3)),
  m 5 4,
  g 6 (.mov (T 0)) 5 true,
  g 7 (.bin .leq (T 6) (.k (.int .u8 (.ofNat 57)))) 5 true,
  a 8 (.pick (T 5) (T 7) (.k (.bool false))),
  m 2 8])
 .ret))
def f197 : PFn := ⟨1, [.t 2], b197, false, true⟩
def b198 : PCode := (.seq (.ops [a 2 (.mov (.k (.bool false)))])
 (.seq (.ops [m 3 0,
  a 4 (.call 199 [(T 3)]),
  m 5 4,
  g 6 (.mov (T 0)) 5 false,
  g 7 (.call 197 [(T 6)]) 5 false,
  a 8 (.pick (T 5) (.k (.bool true)) (T 7)),
  m 9 8,
  g 10 (.mov (T 0)) 9 false,
  g 11 (.bin .eql (T 10) (.k (.int .u8 (.ofNat 95)))) 9 false,
  a 12 (.pick (T 9) (.k (.bool true)) (T 11)),
  m 2 12])
 .ret))
def f198 : PFn := ⟨1, [.t 2], b198, false, true⟩
def b199 : PCode := (.seq (.ops [a 2 (.mov (.k (.bool false)))])
 (.seq (.ops [m 3 0,
  a 4 (.bin .leq (.k (.int .u8 (.ofNat 97))) (T 3)),
  m 5 4,
  g 6 (.mov (T 0)) 5 true,
  g 7 (.bin .leq (T 6) (.k (.int .u8 (.ofNat 122)))) 5 true,
  a 8 (.pick (T 5) (T 7) (.k (.bool false))),
  m 9 8,
  g 10 (.mov (T 0)) 9 false,
  g 11 (.bin .leq (.k (.int .u8 (.ofNat 65))) (T 10)) 9 false,
  g 12 (.mov (T 11)) 9 false,
  g 13 (.mov (T 0)) 12 true,
  g 14 (.bin .leq (T 13) (.k (.int .u8 (.ofNat 90)))) 12 true,
  g 15 (.pick (T 12) (T 14) (.k (.bool false))) 9 false,
  a 16 (.pick (T 9) (.k (.bool true)) (T 15)),
  m 2 16])
 .ret))
def f199 : PFn := ⟨1, [.t 2], b199, false, true⟩
end Go.Proofs.YtmckcikeefggdabGreatDoor
namespace Go.Proofs.YtmckcikeefggdabGreatDoor
open Go.Pi Go.Pi.S
variable {e : Env}
/-- A step of the hash. -/
def hashStep (h : Int) (b : UInt8) : Int := IntKind.u32.wrap (IntKind.u32.wrap (BitVec.ofInt 32 h ^^^ BitVec.ofInt 32 (IntKind.u32.wrap b.toNat)).toNat * 16777619)
def hashFrom (s : List UInt8) : Int := s.foldl hashStep 2166136261
def esc (b : UInt8) : List UInt8 := if b = 92 ∨ b = 34 then [92, b] else if b = 10 then [92, 110] else [b]
def qs (s : List UInt8) : List UInt8 := s.flatMap esc
theorem esc_len (b : UInt8) : (esc b).length ≤ 2 := by unfold esc; split <;> (try split) <;> simp
theorem qs_len (s : List UInt8) : (qs s).length ≤ 2 * s.length := by
  induction s with
  | nil => simp [qs]
  | cons b s ih => have := esc_len b; simp [qs, List.flatMap_cons] at ih ⊢; omega
theorem qs_take {s : List UInt8} {i : Nat} (h : i < s.length) : qs (s.take (i + 1)) = qs (s.take i) ++ esc s[i] := by
  rw [List.take_add_one, List.getElem?_eq_getElem h]; simp only [qs, Option.toList_some, List.flatMap_append, List.flatMap_singleton]
theorem byte_eq (b : UInt8) (n : Nat) (hn : n < 256) : ((b.toNat : Int) == (n : Int)) = decide (b = UInt8.ofNat n) := by
  rw [Bool.eq_iff_iff, beq_iff_eq, decide_eq_true_iff, ← UInt8.toNat_inj]
  have : (UInt8.ofNat n).toNat = n := by simp [UInt8.toNat_ofNat']; omega
  rw [this]; omega
theorem f30_ok (s : List UInt8) (hs : s.length < 9223372036854775808) : ∃ N, runBody e N f30 [.c (.str s)] [] = some (.c (.int .i64 (IntKind.i64.wrap (hashFrom s))), []) := by
  refine ⟨s.length + 1, run_of rfl ?_⟩
  show W _ _ b30 _ _ _ _
  simp [b30, argSlots]
  refine W_loop (fun i sl h => h = [] ∧ getS sl 0 = .c (.str s) ∧ getS sl 3 = .c (.int .u32 ((s.take i).foldl hashStep 2166136261)) ∧ getS sl 4 = .c (.int .i64 i)) s.length (by omega) ⟨rfl, by simp, by simp, by simp⟩ ?_
  rintro i sl h hi ⟨rfl, h0, h3, h4⟩
  rcases Nat.lt_or_ge i s.length with hlt | hge
  · have hx : s[i]? = some s[i] := List.getElem?_eq_getElem hlt
    have hw : IntKind.i64.wrap ((i : Int) + 1) = (i : Int) + 1 := wrap64 (by omega) (by omega)
    have ht : s.take (i + 1) = s.take i ++ [s[i]] := by rw [List.take_add_one, hx]; rfl
    simp [h0, h3, h4, hlt, hx, wrapK, hw, byteC]
    rw [ht, List.foldl_append]; rfl
  · obtain rfl : i = s.length := by omega
    simp [h0, h3, h4, wrapK]
    exact ⟨.inr rfl, by simp [f30, finish, Pi.results, oneOf, hashFrom, memLt, X.ids.idsL, X.ids, below, X.wk, CV.wk]⟩
theorem f32_ok (s : List UInt8) (hs : s.length < 9223372036854775808) : ∃ N, runBody e N f32 [.c (.str s)] [] = some (.c (.int .i64 (IntKind.i64.wrap (hashFrom s))), []) := by
  refine ⟨s.length + 1, run_of rfl ?_⟩
  show W _ _ b32 _ _ _ _
  simp [b32, argSlots]
  refine W_loop (fun i sl h => h = [] ∧ getS sl 0 = .c (.str s) ∧ getS sl 3 = .c (.int .u32 ((s.take i).foldl hashStep 2166136261)) ∧ getS sl 4 = .c (.int .i64 i)) s.length (by omega) ⟨rfl, by simp, by simp, by simp⟩ ?_
  rintro i sl h hi ⟨rfl, h0, h3, h4⟩
  rcases Nat.lt_or_ge i s.length with hlt | hge
  · have hx : s[i]? = some s[i] := List.getElem?_eq_getElem hlt
    have hw : IntKind.i64.wrap ((i : Int) + 1) = (i : Int) + 1 := wrap64 (by omega) (by omega)
    have ht : s.take (i + 1) = s.take i ++ [s[i]] := by rw [List.take_add_one, hx]; rfl
    simp [h0, h3, h4, hlt, hx, wrapK, hw, byteC]
    rw [ht, List.foldl_append]; rfl
  · obtain rfl : i = s.length := by omega
    simp [h0, h3, h4, wrapK]
    exact ⟨.inr rfl, by simp [f32, finish, Pi.results, oneOf, hashFrom, memLt, X.ids.idsL, X.ids, below, X.wk, CV.wk]⟩
theorem f72_ok (bs s : List UInt8) (v : Nat) (hs : bs.length + 2 * s.length ≤ 4294967296) : ∃ N, runBody e N f72 [.own (bs.map byteC) 0 v, .c (.str s)] [.tip v 1 5] = some (.own ((bs ++ qs s).map byteC) 0 (v + s.length), [.tip (v + s.length) 1 5]) := by
  refine ⟨s.length + 1, run_of rfl ?_⟩
  show W _ _ b72 _ _ _ _
  simp [b72]
  refine W_loop (fun i sl h => h = [.tip (v + i) 1 5] ∧ getS sl 0 = .own ((bs ++ qs (s.take i)).map byteC) 0 (v + i) ∧ getS sl 1 = .c (.str s) ∧ getS sl 5 = .c (.int .i64 i)) s.length (by omega) ⟨by simp, by simp [qs], by simp, by simp⟩ ?_
  rintro i sl h hi ⟨rfl, h0, h1, h5⟩
  rcases Nat.lt_or_ge i s.length with hlt | hge
  · have hx : s[i]? = some s[i] := List.getElem?_eq_getElem hlt
    have hw : IntKind.i64.wrap ((i : Int) + 1) = (i : Int) + 1 := wrap64 (by omega) (by omega)
    have hq := qs_len (s.take i)
    have hq' : (s.take i).length = i := by simp; omega
    have e1 : ((s[i].toNat : Int) == 92) = decide (s[i] = 92) := byte_eq _ 92 (by omega)
    have e2 : ((s[i].toNat : Int) == 34) = decide (s[i] = 34) := byte_eq _ 34 (by omega)
    have e3 : ((s[i].toNat : Int) == 10) = decide (s[i] = 10) := byte_eq _ 10 (by omega)
    simp [h0, h1, h5, hlt, hx, wrapK, hw, byteC, e1]
    have hb2 : bs.length + ((qs (s.take i)).length + 2) ≤ 4294967296 := by omega
    have hb1 : bs.length + ((qs (s.take i)).length + 1) ≤ 4294967296 := by omega
    have hq2 := qs_take hlt
    by_cases c1 : s[i] = 92
    · simp [c1, h0, h1, h5, hlt, hx, wrapK, hw, byteC, hb2, hq2, esc, appendTo, elemsOf, Nat.add_assoc]
    · by_cases c2 : s[i] = 34
      · simp [c2, h0, h1, h5, hlt, hx, wrapK, hw, byteC, hb2, hq2, esc, appendTo, elemsOf, Nat.add_assoc]
      · by_cases c3 : s[i] = 10
        · simp [c3, h0, h1, h5, hlt, hx, wrapK, hw, byteC, hb2, hq2, esc, appendTo, elemsOf, Nat.add_assoc]
        · simp [c1, c2, c3, e2, e3, h0, h1, h5, hlt, hx, wrapK, hw, byteC, hb1, hq2, esc, appendTo, elemsOf, Nat.add_assoc]
  · obtain rfl : i = s.length := by omega
    simp [h0, h1, h5, wrapK]
    refine ⟨.inr rfl, ?_⟩
    simp [f72, finish, Pi.results, oneOf, X.ids.idsL, X.ids, below, memLt, Ob.lt, Ob.ids]
end Go.Proofs.YtmckcikeefggdabGreatDoor
namespace Go.Proofs.YtmckcikeefggdabGreatDoor
open Go.Pi Go.Pi.S
variable {e : Env}
theorem f73_ok (s : List UInt8) (hs : 2 * s.length ≤ 4294967296) : ∃ N, runBody e N f73 [.c (.str s)] [] = some (.c (.str (qs s)), []) := by
  refine ⟨s.length + 1, run_of rfl ?_⟩
  show W _ _ b73 _ _ _ _
  simp [b73]
  refine W_loop (fun i sl h => ((i = 0 ∧ h = [] ∧ getS sl 3 = .c (.sl true [])) ∨ (0 < i ∧ Own 5 h (getS sl 3) (qs (s.take i)))) ∧ getS sl 0 = .c (.str s) ∧ getS sl 4 = .c (.int .i64 i)) s.length (by omega) ⟨by simp, by simp, by simp⟩ ?_
  rintro i sl h hi ⟨hB, h0, h4⟩
  have hc : clean (some [0, 3, 4]) ([] : Mem).length ⟨sl, h⟩ = ⟨pruneS [0, 3, 4] sl, h⟩ := by
    rcases hB with ⟨_, rfl, _⟩ | ⟨_, id, v, h3, _⟩
    · exact clean_small (by simp)
    · exact clean_own (i := 3) (by simp) h3 (Nat.zero_le _)
  rw [hc]
  have hbuf : Buf 5 h (getS sl 3) (qs (s.take i)) := by
    rcases hB with ⟨rfl, rfl, h3⟩ | ⟨_, o⟩
    · rw [h3]; exact .inl rfl
    · exact o.buf
  have hq := qs_len (s.take i)
  have hq' : (s.take i).length = i := by simp; omega
  obtain ⟨B, h3⟩ : ∃ B, getS sl 3 = B := ⟨_, rfl⟩
  rw [h3] at hbuf
  rcases Nat.lt_or_ge i s.length with hlt | hge
  · have hx : s[i]? = some s[i] := List.getElem?_eq_getElem hlt
    have hw : IntKind.i64.wrap ((i : Int) + 1) = (i : Int) + 1 := wrap64 (by omega) (by omega)
    have e1 : ((s[i].toNat : Int) == 92) = decide (s[i] = 92) := byte_eq _ 92 (by omega)
    have e2 : ((s[i].toNat : Int) == 34) = decide (s[i] = 34) := byte_eq _ 34 (by omega)
    have e3 : ((s[i].toNat : Int) == 10) = decide (s[i] = 10) := byte_eq _ 10 (by omega)
    have hq2 := qs_take hlt
    have fin : ∀ (B' : X) (h' : Mem), Own 5 h' B' (qs (s.take i) ++ esc s[i]) → Own 5 h' B' (qs (s.take (i + 1))) := fun B' h' o => by rw [hq2]; exact o
    simp [h0, h4, hlt, hx, wrapK, hw, byteC, e3, h3]
    by_cases c3 : s[i] = 10
    · obtain ⟨B', h', ha, -, -, ho, -⟩ := buf_append (ys := [92, 110]) hbuf (by simp [big]; omega)
      have ha : appendTo h 5 1 1 B [.int .u8 92, .int .u8 110] = some (B', h') := ha
      simp [c3, h0, h4, hlt, hx, wrapK, hw, byteC, e3, h3, elemsOf, ha, hq2, esc, ho (by simp)]
    · by_cases c1 : s[i] = 92 ∨ s[i] = 34
      · obtain ⟨B', h', ha, hb, -, ho, -⟩ := buf_append (ys := [92]) hbuf (by simp [big]; omega)
        have ha : appendTo h 5 1 1 B [.int .u8 92] = some (B', h') := ha
        obtain ⟨B2, h2, ha2, hb2, -, ho2, -⟩ := buf_append (ys := [s[i]]) hb (by simp [big]; omega)
        have ha2 : appendTo h' 5 1 1 B' [.int .u8 s[i].toNat] = some (B2, h2) := ha2
        rcases c1 with c1 | c1
        · simp [c1] at ha2 ho2
          simp [c1, h0, h4, hlt, hx, wrapK, hw, byteC, e1, h3, elemsOf, ha, ha2, hq2, esc, ho2]
        · simp [c1] at ha2 ho2
          simp [c1, h0, h4, hlt, hx, wrapK, hw, byteC, e1, h3, elemsOf, ha, ha2, hq2, esc, ho2]
      · obtain ⟨B2, h2, ha2, hb2, -, ho2, -⟩ := buf_append (ys := [s[i]]) hbuf (by simp [big]; omega)
        have ha2 : appendTo h 5 1 1 B [.int .u8 s[i].toNat] = some (B2, h2) := ha2
        simp only [not_or] at c1
        simp [c1, c3, h0, h4, hlt, hx, wrapK, hw, byteC, e1, e2, h3, elemsOf, ha2, hq2, esc, ho2]
  · obtain rfl : i = s.length := by omega
    have he := hbuf.elems
    simp [h0, h4, wrapK, h3, he, bytesOf_map]
    exact Ret_c (.inr rfl) rfl (by simp) rfl
end Go.Proofs.YtmckcikeefggdabGreatDoor
namespace Go.Proofs.YtmckcikeefggdabGreatDoor
open Go.Pi Go.Pi.S
variable {e : Env}
abbrev Lb := List UInt8 × List UInt8
def lbl (p : Lb) : CV := .agg [.str p.1, .str p.2]
def enc (l : List Lb) : List CV := l.map lbl
def one (p : Lb) : List UInt8 := p.1 ++ [61, 34] ++ qs p.2 ++ [34]
def sep (i : Nat) : List UInt8 := if i = 0 then [] else [44]
def preF (l : List Lb) : Nat → List UInt8
  | 0 => [123]
  | i + 1 => preF l i ++ sep i ++ (l[i]?.map one).getD []
def fmt (l : List Lb) : List UInt8 := preF l l.length ++ [125]
def size (l : List Lb) : Nat := (l.map fun p => p.1.length + 2 * p.2.length + 4).sum
theorem one_len (p : Lb) : (one p).length ≤ p.1.length + 2 * p.2.length + 3 := by
  have := qs_len p.2
  simp [one]; omega
theorem size_take {l : List Lb} {i : Nat} (h : i < l.length) : size (l.take (i + 1)) = size (l.take i) + (l[i].1.length + 2 * l[i].2.length + 4) := by
  rw [size, List.take_add_one, List.getElem?_eq_getElem h]
  simp only [size, List.map_append, List.sum_append, Option.toList_some, List.map_cons, List.map_nil, List.sum_cons, List.sum_nil, Nat.add_zero]
theorem size_le (l : List Lb) (i : Nat) : size (l.take i) ≤ size l := by
  conv => rhs; rw [← List.take_append_drop i l]
  simp only [size, List.map_append, List.sum_append]; omega
theorem preF_next {l : List Lb} {i : Nat} (h : i < l.length) : preF l (i + 1) = preF l i ++ sep i ++ one l[i] := by simp [preF, h]
theorem preF_len (l : List Lb) : ∀ i, i ≤ l.length → (preF l i).length ≤ 1 + size (l.take i)
  | 0, _ => by simp [preF]
  | i + 1, h => by
    have h0 := preF_len l i (by omega)
    have h1 := one_len l[i]
    have h2 : (sep i).length ≤ 1 := by unfold sep; split <;> simp
    rw [preF_next (by omega), size_take (by omega)]
    simp only [List.length_append]; omega
theorem enc_get {l : List Lb} {i : Nat} (h : i < l.length) : (enc l)[i]? = some (lbl l[i]) := by simp [enc, h]
theorem enc_getI (l : List Lb) (i : Nat) (h : i < (enc l).length) : (enc l)[i] = lbl (l[i]'(by simpa [enc] using h)) := by simp [enc]
theorem enc_len (l : List Lb) : (enc l).length = l.length := by simp [enc]
theorem f33_ok (f : Bool) (l : List Lb) (hs : size l ≤ 4294967000) (hl : l.length < 4294967296) (hc : ∀ s : List UInt8, 2 * s.length ≤ 4294967296 → e.call 73 [.c (.str s)] [] = some (.c (.str (qs s)), [])) : ∃ N, runBody e N f33 [.c (.sl f (enc l))] [] = some (.c (.str (fmt l)), []) := by
  refine ⟨l.length + 1, run_of rfl ?_⟩
  show W _ _ b33 _ _ _ _
  simp [b33]
  refine W_loop (fun i sl h => h = [] ∧ getS sl 0 = .c (.sl f (enc l)) ∧ getS sl 3 = .c (.str (preF l i)) ∧ getS sl 4 = .c (.int .i64 i)) l.length (by omega) ⟨rfl, by simp, by simp [preF], by simp⟩ ?_
  rintro i sl h hi ⟨rfl, h0, h3, h4⟩
  rcases Nat.lt_or_ge i l.length with hlt | hge
  · have hx := enc_get hlt
    have hw : IntKind.i64.wrap ((i : Int) + 1) = (i : Int) + 1 := wrap64 (by omega) (by omega)
    have p1 := preF_len l i (by omega)
    have p2 := size_le l (i + 1)
    have p3 := size_take hlt
    have p4 := qs_len l[i].2
    have hcc := fun h' : Mem => doCall_c1 (h := h') (hc l[i].2 (by omega))
    have hn := preF_next hlt
    have hcs := hc l[i].2 (by omega)
    simp [h0, h3, h4, hlt, hx, wrapK, hw, enc_len]
    have g0 : (preF l i).length + 1 ≤ 4611686018427387904 := by omega
    refine Wc_split (fun ht => ?_) (fun ht => ?_)
    · have hi0 : i ≠ 0 := by simpa [Nat.pos_iff_ne_zero] using ht
      have g1 : (preF l i ++ [44]).length + l[i].1.length ≤ 4611686018427387904 := by (try simp only [List.length_append, List.length_cons, List.length_nil]); omega
      have g2 : (preF l i ++ [44] ++ l[i].1).length + [61, 34].length ≤ 4611686018427387904 := by (try simp only [List.length_append, List.length_cons, List.length_nil]); omega
      have g3 : (preF l i ++ [44] ++ l[i].1 ++ [61, 34]).length + (qs l[i].2).length ≤ 4611686018427387904 := by (try simp only [List.length_append, List.length_cons, List.length_nil]); omega
      have g4 : (preF l i ++ [44] ++ l[i].1 ++ [61, 34] ++ qs l[i].2).length + [34].length ≤ 4611686018427387904 := by (try simp only [List.length_append, List.length_cons, List.length_nil]); omega
      (try simp [Nat.add_assoc] at g1); (try simp [Nat.add_assoc] at g2); (try simp [Nat.add_assoc] at g3); (try simp [Nat.add_assoc] at g4)
      simp [h0, h3, h4, bin_cat, g0]
      refine W_dops' rfl rfl ?_
      simp [h0, h3, h4, bin_cat, g1, g2, g3, g4, hx, lbl, hcc, hcs, hw, wrapK, X.ids.idsL, X.ids, hn, one, sep, hi0, Nat.add_assoc]
    · have hi0 : i = 0 := by simpa [Nat.pos_iff_ne_zero] using ht
      have hs0 : sep i = [] := by rw [hi0]; rfl
      have g1 : (preF l i).length + l[i].1.length ≤ 4611686018427387904 := by (try simp only [List.length_append, List.length_cons, List.length_nil]); omega
      have g2 : (preF l i ++ l[i].1).length + [61, 34].length ≤ 4611686018427387904 := by (try simp only [List.length_append, List.length_cons, List.length_nil]); omega
      have g3 : (preF l i ++ l[i].1 ++ [61, 34]).length + (qs l[i].2).length ≤ 4611686018427387904 := by (try simp only [List.length_append, List.length_cons, List.length_nil]); omega
      have g4 : (preF l i ++ l[i].1 ++ [61, 34] ++ qs l[i].2).length + [34].length ≤ 4611686018427387904 := by (try simp only [List.length_append, List.length_cons, List.length_nil]); omega
      (try simp [Nat.add_assoc] at g1); (try simp [Nat.add_assoc] at g2); (try simp [Nat.add_assoc] at g3); (try simp [Nat.add_assoc] at g4)
      simp [h0, h3, h4, bin_cat, g0]
      refine W_dops' rfl rfl ?_
      simp [h0, h3, h4, bin_cat, g1, g2, g3, g4, hx, lbl, hcc, hcs, hw, wrapK, X.ids.idsL, X.ids, hn, one, hs0, Nat.add_assoc]
  · obtain rfl : i = l.length := by omega
    have p1 := preF_len l l.length (by omega)
    have p2 := size_le l l.length
    simp (disch := (simp only [List.length_append, List.length_cons, List.length_nil]; omega)) [h0, h3, h4, wrapK, enc_len, bin_addS]
    exact Ret_c (.inr rfl) rfl (by simp [fmt]) rfl
end Go.Proofs.YtmckcikeefggdabGreatDoor
namespace Go.Proofs.YtmckcikeefggdabGreatDoor
open Go.Pi Go.Pi.S
variable {e : Env}
theorem f31_ok (f : Bool) (l : List Lb) (hs : size l ≤ 2147483000) (hl : l.length < 4294967296) (hc : ∀ (bs s : List UInt8) (v : Nat), bs.length + 2 * s.length ≤ 4294967296 → e.call 72 [.own (bs.map byteC) 0 v, .c (.str s)] [.tip v 1 5] = some (.own ((bs ++ qs s).map byteC) 0 (v + s.length), [.tip (v + s.length) 1 5])) : ∃ N, runBody e N f31 [.c (.sl f (enc l))] [] = some (.c (.str (fmt l)), []) := by
  refine ⟨l.length + 1, run_of rfl ?_⟩
  show W _ _ b31 _ _ _ _
  simp [b31, enc_len]
  refine W_loop (fun i sl h => ((i = 0 ∧ h = [] ∧ getS sl 3 = .c (.sl true [byteC 123])) ∨ (0 < i ∧ Own 5 h (getS sl 3) (preF l i))) ∧ getS sl 8 = .c (.sl f (enc l)) ∧ getS sl 9 = .c (.int .i64 l.length) ∧ getS sl 10 = .c (.int .i64 i)) l.length (by omega) ⟨by simp [byteC], by simp, by simp [enc_len], by simp⟩ ?_
  rintro i sl h hi ⟨hB, h8, h9, h10⟩
  have hcl : clean (some [3, 8, 9, 10]) ([] : Mem).length ⟨sl, h⟩ = ⟨pruneS [3, 8, 9, 10] sl, h⟩ := by
    rcases hB with ⟨_, rfl, _⟩ | ⟨_, id, v, h3, _⟩
    · exact clean_small (by simp)
    · exact clean_own (i := 3) (by simp) h3 (Nat.zero_le _)
  rw [hcl]
  have hbuf : Buf 5 h (getS sl 3) (preF l i) := by
    rcases hB with ⟨rfl, rfl, h3⟩ | ⟨_, o⟩
    · rw [h3]; exact .inl rfl
    · exact o.buf
  obtain ⟨B, h3⟩ : ∃ B, getS sl 3 = B := ⟨_, rfl⟩
  rw [h3] at hbuf
  rcases Nat.lt_or_ge i l.length with hlt | hge
  · have hx := enc_get hlt
    have hw : IntKind.i64.wrap ((i : Int) + 1) = (i : Int) + 1 := wrap64 (by omega) (by omega)
    have p1 := preF_len l i (by omega)
    have p2 := size_le l (i + 1)
    have p3 := size_take hlt
    have p4 := qs_len l[i].2
    have hn := preF_next hlt
    have hn2 : preF l (i + 1) = preF l i ++ sep i ++ l[i].1 ++ [61, 34] ++ qs l[i].2 ++ [34] := by rw [hn]; simp [one]
    -- the label's own object
    have hk0 : (h ++ [Ob.cells 79 [.c (.str l[i].1), .c (.str l[i].2)]])[h.length]? = some (Ob.cells 79 [.c (.str l[i].1), .c (.str l[i].2)]) := by simp
    have tail : ∀ (A : List UInt8) (C : X) (m : Mem), A.length ≤ 2147483100 + 1 → m[h.length]? = some (Ob.cells 79 [.c (.str l[i].1), .c (.str l[i].2)]) → Buf 5 m C A → ∃ C1 m1 C2 m2 id v C4 m4, appendTo m 5 1 1 C (l[i].1.map byteC) = some (C1, m1) ∧ appendTo m1 5 1 1 C1 [.int .u8 61, .int .u8 34] = some (C2, m2) ∧ C2 = .own ((A ++ l[i].1 ++ [61, 34]).map byteC) id v ∧ m2[id]? = some (.tip v 1 5) ∧ m2[h.length]? = some (Ob.cells 79 [.c (.str l[i].1), .c (.str l[i].2)]) ∧ appendTo (m2.set id (.tip (v + l[i].2.length) 1 5)) 5 1 1 (.own ((A ++ l[i].1 ++ [61, 34] ++ qs l[i].2).map byteC) id (v + l[i].2.length)) [.int .u8 34] = some (C4, m4) ∧ Own 5 m4 C4 (A ++ l[i].1 ++ [61, 34] ++ qs l[i].2 ++ [34]) := by
      intro A C m hA hm hb
      obtain ⟨C1, m1, a1, b1, k1, -, -⟩ := buf_append (ys := l[i].1) hb (by simp only [big]; omega)
      obtain ⟨C2, m2, a2, b2, k2, o2, -⟩ := buf_append (ys := [61, 34]) b1 (by simp only [big, List.length_append, List.length_cons, List.length_nil]; omega)
      obtain ⟨id, v, rfl, hv⟩ := o2 (by simp)
      have hlt2 := (List.getElem?_eq_some_iff.1 hv).1
      have o3 : Own 5 (m2.set id (.tip (v + l[i].2.length) 1 5)) (.own ((A ++ l[i].1 ++ [61, 34] ++ qs l[i].2).map byteC) id (v + l[i].2.length)) (A ++ l[i].1 ++ [61, 34] ++ qs l[i].2) := ⟨id, _, rfl, by simp [hlt2]⟩
      obtain ⟨C4, m4, a4, b4, k4, o4, -⟩ := buf_append (ys := [34]) o3.buf (by simp only [big, List.length_append, List.length_cons, List.length_nil]; omega)
      exact ⟨C1, m1, _, m2, id, v, C4, m4, a1, a2, rfl, hv, k2.2 _ _ _ (k1.2 _ _ _ hm), a4, o4 (by simp)⟩
    have hset : (h ++ [Ob.cells 79 [X.c (CV.str []), X.c (CV.str [])]]).set h.length (Ob.cells 79 [.c (.str l[i].1), .c (.str l[i].2)]) = h ++ [Ob.cells 79 [.c (.str l[i].1), .c (.str l[i].2)]] := by simp [List.set_append_right]
    simp [h3, h8, h9, h10, hlt, hx, wrapK, hw, enc_len, lbl, enc_getI, hset]
    refine Wc_split (fun ht => ?_) (fun ht => ?_)
    · have hi0 : i ≠ 0 := by simpa [Nat.pos_iff_ne_zero] using ht
      obtain ⟨C0, m0, a0, b0, k0, -, -⟩ := buf_append (ys := [44]) (hbuf.keep (Ob.cells 79 [.c (.str l[i].1), .c (.str l[i].2)])) (by simp [big]; omega)
      have a0 : appendTo (h ++ [Ob.cells 79 [.c (.str l[i].1), .c (.str l[i].2)]]) 5 1 1 B [.int .u8 44] = some (C0, m0) := a0
      have hm0 := k0.2 _ _ _ hk0
      obtain ⟨A, hA⟩ : ∃ A, A = preF l i ++ [44] := ⟨_, rfl⟩
      obtain ⟨C1, m1, C2, m2, id, v, C4, m4, a1, a2, rfl, hv, hm2, a4, o4⟩ := tail A C0 m0 (by simp only [hA, List.length_append, List.length_cons, List.length_nil]; omega) hm0 (hA ▸ b0)
      have a2 : appendTo m1 5 1 1 C1 [.int .u8 61, .int .u8 34] = some (.own ((A ++ l[i].1 ++ [61, 34]).map byteC) id v, m2) := a2
      have hcall := doCall_own (e := e) (f := 72) (h := m2) hv (hc (A ++ l[i].1 ++ [61, 34]) l[i].2 v (by simp only [hA, List.length_append, List.length_cons, List.length_nil]; omega))
      generalize (A ++ l[i].1 ++ [61, 34]).map byteC = D1 at a2 hcall
      generalize (A ++ l[i].1 ++ [61, 34] ++ qs l[i].2).map byteC = D2 at a4 hcall
      have hfin : Own 5 m4 C4 (preF l (i + 1)) := by rw [hn2]; simpa [hA, sep, hi0] using o4
      simp [a0, a1, a2, a4, h3, h8, h9, h10, elemsOf, hm0, hm2, hcall, hw, wrapK, hfin]
    · have hi0 : i = 0 := by simpa [Nat.pos_iff_ne_zero] using ht
      have hs0 : sep i = [] := by rw [hi0]; rfl
      obtain ⟨A, hA⟩ : ∃ A, A = preF l i := ⟨_, rfl⟩
      obtain ⟨C1, m1, C2, m2, id, v, C4, m4, a1, a2, rfl, hv, hm2, a4, o4⟩ := tail A B _ (by simp only [hA]; omega) hk0 (hA ▸ hbuf.keep (Ob.cells 79 [.c (.str l[i].1), .c (.str l[i].2)]))
      have a2 : appendTo m1 5 1 1 C1 [.int .u8 61, .int .u8 34] = some (.own ((A ++ l[i].1 ++ [61, 34]).map byteC) id v, m2) := a2
      have hcall := doCall_own (e := e) (f := 72) (h := m2) hv (hc (A ++ l[i].1 ++ [61, 34]) l[i].2 v (by simp only [hA, List.length_append, List.length_cons, List.length_nil]; omega))
      generalize (A ++ l[i].1 ++ [61, 34]).map byteC = D1 at a2 hcall
      generalize (A ++ l[i].1 ++ [61, 34] ++ qs l[i].2).map byteC = D2 at a4 hcall
      have hfin : Own 5 m4 C4 (preF l (i + 1)) := by rw [hn2]; simpa [hA, hs0] using o4
      simp [a1, a2, a4, h3, h8, h9, h10, elemsOf, hk0, hm2, hcall, hw, wrapK, hfin]
  · obtain rfl : i = l.length := by omega
    have p1 := preF_len l l.length (by omega)
    have p2 := size_le l l.length
    obtain ⟨B', h', ha, hb, -, -, -⟩ := buf_append (ys := [125]) hbuf (by simp [big]; omega)
    have ha : appendTo h 5 1 1 B [.int .u8 125] = some (B', h') := ha
    have he := hb.elems
    have hbo := bytesOf_map (preF l l.length ++ [125])
    generalize (preF l l.length ++ [125]).map byteC = D at he hbo
    have hel : elemsOf h false 1 (.c (.sl true [.int .u8 125])) = some [.int .u8 125] := by simp [elemsOf]
    simp [h3, h8, h9, h10, wrapK, enc_len, hel, ha, he, hbo]
    exact Ret_c (.inr rfl) rfl (by simp [fmt]) rfl
end Go.Proofs.YtmckcikeefggdabGreatDoor
namespace Go.Proofs.YtmckcikeefggdabGreatDoor
open Go.Pi Go.Pi.S
variable {e : Env}
def big1 (p : Lb) : Bool := decide (61 < p.1.length) || decide (201 < p.2.length)
def anyTo (l : List Lb) (i : Nat) : Bool := (l.take i).any big1
def great (l : List Lb) : Bool := l.any big1 || decide (17 < l.length)
theorem f10_ok (f : Bool) (l : List Lb) (hl : l.length < 9223372036854775808) : ∃ N, runBody e N f10 [.c (.sl f (enc l))] [] = some (.c (.bool (great l)), []) := by
  refine ⟨l.length + 1, run_of rfl ?_⟩
  show W _ _ b10 _ _ _ _
  simp [b10]
  refine W_loop (fun i sl h => h = [] ∧ getS sl 0 = .c (.sl f (enc l)) ∧ getS sl 3 = .c (.int .i64 i) ∧ anyTo l i = false) l.length (by omega) ⟨rfl, by simp, by simp, by simp [anyTo]⟩ ?_
  rintro i sl h hi ⟨rfl, h0, h3, hb⟩
  rcases Nat.lt_or_ge i l.length with hlt | hge
  · have hw : IntKind.i64.wrap ((i : Int) + 1) = (i : Int) + 1 := wrap64 (by omega) (by omega)
    have ht : anyTo l (i + 1) = big1 l[i] := by rw [anyTo, List.take_add_one, List.getElem?_eq_getElem hlt, List.any_append]; rw [anyTo] at hb; rw [hb]; simp
    have hm : big1 l[i] = true → great l = true := fun h => by
      simp only [great, Bool.or_eq_true, List.any_eq_true]; exact .inl ⟨l[i], List.getElem_mem _, h⟩
    by_cases c1 : (61 : Int) < (l[i].1.length : Int)
    · have hg : great l = true := hm (by simp only [big1, Bool.or_eq_true, decide_eq_true_iff]; omega)
      simp [h0, h3, hlt, wrapK, hw, enc_len, lbl, enc_getI, c1, hg]
      exact Ret_c (.inr rfl) rfl rfl rfl
    · by_cases c2 : (201 : Int) < (l[i].2.length : Int)
      · have hg : great l = true := hm (by simp only [big1, Bool.or_eq_true, decide_eq_true_iff]; omega)
        simp [h0, h3, hlt, wrapK, hw, enc_len, lbl, enc_getI, c1, c2, hg]
        exact Ret_c (.inr rfl) rfl rfl rfl
      · have hg : big1 l[i] = false := by simp only [big1, Bool.or_eq_false_iff, decide_eq_false_iff_not]; omega
        rw [hg] at ht
        simp [h0, h3, hlt, wrapK, hw, enc_len, lbl, enc_getI, c1, c2]
        exact ht
  · obtain rfl : i = l.length := by omega
    have hg : great l = decide ((17 : Int) < (l.length : Int)) := by rw [anyTo, List.take_length] at hb; simp [great, hb]; omega
    simp [h0, h3, enc_len]
    exact Ret_c (.inr rfl) rfl (by simp [hg]) rfl
def hashOf (l : List Lb) : Int := IntKind.i64.wrap (hashFrom (fmt l))
theorem f18_ok (f : Bool) (l : List Lb) (hc : e.call 31 [.c (.sl false (enc l))] [] = some (.c (.str (fmt l)), [])) (hd : e.call 30 [.c (.str (fmt l))] [] = some (.c (.int .i64 (hashOf l)), [])) : ∃ N, runBody e N f18 [.c (.sl f (enc l))] [] = some (.c (.int .i64 (hashOf l)), []) := by
  refine ⟨1, run_of rfl ?_⟩
  show W _ _ b18 _ _ _ _
  simp [b18, doCall_c1 hc, doCall_c1 hd]
  exact Ret_c (.inr rfl) rfl rfl rfl
theorem f20_ok (f : Bool) (l : List Lb) (hc : e.call 33 [.c (.sl false (enc l))] [] = some (.c (.str (fmt l)), [])) (hd : e.call 32 [.c (.str (fmt l))] [] = some (.c (.int .i64 (hashOf l)), [])) : ∃ N, runBody e N f20 [.c (.sl f (enc l))] [] = some (.c (.int .i64 (hashOf l)), []) := by
  refine ⟨1, run_of rfl ?_⟩
  show W _ _ b20 _ _ _ _
  simp [b20, doCall_c1 hc, doCall_c1 hd]
  exact Ret_c (.inr rfl) rfl rfl rfl
def okN (n : Int) : Bool := decide (1 ≤ n) && decide (n ≤ 16)
theorem f19_ok (n : Int) : ∃ N, runBody e N f19 [.c (.int .i64 n)] [] = some (.c (.bool (okN n)), []) := by
  refine ⟨1, run_of rfl ?_⟩
  show W _ _ b19 _ _ _ _
  by_cases c1 : 1 ≤ n
  · simp [b19, c1]
    exact Ret_c (.inr rfl) rfl (by simp [okN, c1]) rfl
  · simp [b19, c1]
    exact Ret_c (.inr rfl) rfl (by simp [okN, c1]) rfl
def assign (n h : Int) : Int := if okN n then h.tmod n else 0
theorem f21_ok (t n : Int) : ∃ N, runBody e N f21 [.c (.int .i64 t), .c (.int .i64 n)] [] = some (.c (.int .i64 (if okN n && decide (0 ≤ t) then t.tmod n else 0)), []) := by
  refine ⟨1, run_of rfl ?_⟩
  show W _ _ b21 _ _ _ _
  by_cases c1 : n < 1
  · have hn : okN n = false := by simp [okN]; omega
    simp [b21, c1]
    exact Ret_c (.inr rfl) rfl (by simp [hn]) rfl
  · by_cases c2 : 16 < n
    · have hn : okN n = false := by simp [okN]; omega
      simp [b21, c1, c2]
      exact Ret_c (.inr rfl) rfl (by simp [hn]) rfl
    · have hn : okN n = true := by simp [okN]; omega
      have hne : n ≠ 0 := by omega
      by_cases c3 : t < 0
      · have h3 : ¬ 0 ≤ t := by omega
        simp [b21, c1, c2, c3]
        exact Ret_c (.inr rfl) rfl (by simp [hn, h3]) rfl
      · have h3 : 0 ≤ t := by omega
        simp [b21, c1, c2, c3, bin_rem hne]
        exact Ret_c (.inr rfl) rfl (by simp [hn, h3]) rfl
theorem f6_ok (f : Bool) (l : List Lb) (n : Int) (hc : okN n = true → e.call 18 [.c (.sl false (enc l))] [] = some (.c (.int .i64 (hashOf l)), [])) : ∃ N, runBody e N f6 [.c (.sl f (enc l)), .c (.int .i64 n)] [] = some (.c (.int .i64 (assign n (hashOf l))), []) := by
  refine ⟨1, run_of rfl ?_⟩
  show W _ _ b6 _ _ _ _
  by_cases c1 : n < 1
  · have hn : okN n = false := by simp [okN]; omega
    simp [b6, c1]
    exact Ret_c (.inr rfl) rfl (by simp [assign, hn]) rfl
  · by_cases c2 : 16 < n
    · have hn : okN n = false := by simp [okN]; omega
      simp [b6, c1, c2]
      exact Ret_c (.inr rfl) rfl (by simp [assign, hn]) rfl
    · have hn : okN n = true := by simp [okN]; omega
      have hne : n ≠ 0 := by omega
      simp [b6, c1, c2, bin_rem hne, doCall_c1 (hc hn)]
      exact Ret_c (.inr rfl) rfl (by simp [assign, hn]) rfl
theorem f7_ok (f : Bool) (l : List Lb) (n : Int) (hd : e.call 19 [.c (.int .i64 n)] [] = some (.c (.bool (okN n)), [])) (hc : okN n = true → e.call 20 [.c (.sl false (enc l))] [] = some (.c (.int .i64 (hashOf l)), [])) : ∃ N, runBody e N f7 [.c (.sl f (enc l)), .c (.int .i64 n)] [] = some (.c (.int .i64 (assign n (hashOf l))), []) := by
  refine ⟨1, run_of rfl ?_⟩
  show W _ _ b7 _ _ _ _
  simp [b7, doCall_c1 hd]
  cases hn : okN n with
  | false =>
    simp
    exact Ret_c (.inr rfl) rfl (by simp [assign, hn]) rfl
  | true =>
    have hne : n ≠ 0 := by simp [okN] at hn; omega
    simp [bin_rem hne, doCall_c1 (hc hn)]
    exact Ret_c (.inr rfl) rfl (by simp [assign, hn]) rfl
end Go.Proofs.YtmckcikeefggdabGreatDoor
namespace Go.Proofs.YtmckcikeefggdabGreatDoor
open Go.Pi Go.Pi.S
variable {e : Env}
def strOf : CV → List UInt8
  | .str s => s
  | _ => []
def cellStr (i : Nat) : CV → List UInt8
  | .agg cs => match cs[i]? with | some v => strOf v | none => []
  | _ => []
def T3 (es : List CV) : Prop := ∀ v, v ∈ es → ∃ x s y, v = .agg [x, .str s, y]
def big3 (v : CV) : Bool := decide (61 < (cellStr 1 v).length)
def anyTo3 (es : List CV) (i : Nat) : Bool := (es.take i).any big3
def great3 (es : List CV) : Bool := es.any big3 || decide (70 < es.length)
theorem f14_ok (f : Bool) (es : List CV) (ht3 : T3 es) (hl : es.length < 9223372036854775808) : ∃ N, runBody e N f14 [.c (.sl f es)] [] = some (.c (.bool (great3 es)), []) := by
  refine ⟨es.length + 1, run_of rfl ?_⟩
  show W _ _ b14 _ _ _ _
  simp [b14]
  refine W_loop (fun i sl h => h = [] ∧ getS sl 0 = .c (.sl f es) ∧ getS sl 3 = .c (.int .i64 i) ∧ anyTo3 es i = false) es.length (by omega) ⟨rfl, by simp, by simp, by simp [anyTo3]⟩ ?_
  rintro i sl h hi ⟨rfl, h0, h3, hb⟩
  rcases Nat.lt_or_ge i es.length with hlt | hge
  · have hw : IntKind.i64.wrap ((i : Int) + 1) = (i : Int) + 1 := wrap64 (by omega) (by omega)
    have ht : anyTo3 es (i + 1) = big3 es[i] := by rw [anyTo3, List.take_add_one, List.getElem?_eq_getElem hlt, List.any_append]; rw [anyTo3] at hb; rw [hb]; simp
    have hm : big3 es[i] = true → great3 es = true := fun h => by
      simp only [great3, Bool.or_eq_true, List.any_eq_true]; exact .inl ⟨es[i], List.getElem_mem _, h⟩
    obtain ⟨x, s, y, hv⟩ := ht3 es[i] (List.getElem_mem _)
    have hbg : big3 es[i] = decide (61 < s.length) := by rw [hv]; rfl
    by_cases c1 : (61 : Int) < (s.length : Int)
    · have hg : great3 es = true := hm (by rw [hbg]; simp; omega)
      simp [h0, h3, hlt, wrapK, hw, hv, c1, hg]
      exact Ret_c (.inr rfl) rfl rfl rfl
    · have hg : big3 es[i] = false := by rw [hbg]; simp; omega
      rw [hg] at ht
      simp [h0, h3, hlt, wrapK, hw, hv, c1]
      exact ht
  · obtain rfl : i = es.length := by omega
    have hg : great3 es = decide ((70 : Int) < (es.length : Int)) := by rw [anyTo3, List.take_length] at hb; simp only [great3, hb, Bool.false_or]; simp; omega
    simp [h0, h3]
    rw [hg]; exact Ret_c (.inr rfl) rfl rfl rfl
def lenOf : CV → Nat
  | .sl _ es => es.length
  | .str s => s.length
  | _ => 0
theorem dec_eq {n : Int} {m k : Nat} (h : n = (k : Int)) : decide (n < (m : Int)) = decide (k < m) := decide_eq_decide.2 (by omega)
theorem f11_ok (c0 c1 c2 c3 c4 : CV) (f : Bool) (es : List CV) : ∃ N, runBody e N f11 [.c (.agg [c0, c1, c2, c3, c4, .sl f es])] [] = some (.c (.bool (decide (40 < es.length))), []) := by
  refine ⟨1, run_of rfl ?_⟩
  show W _ _ b11 _ _ _ _
  have k1 : decide ((40 : Int) < (es.length : Int)) = decide (40 < es.length) := dec_eq rfl
  simp [b11, k1]
  exact Ret_c (.inr rfl) rfl rfl rfl
theorem f12_ok (c0 c4 : CV) (f f' : Bool) (s : List UInt8) (l l' : List Lb) (hc : e.call 10 [.c (.sl false (enc l))] [] = some (.c (.bool (great l)), [])) (hc' : e.call 10 [.c (.sl false (enc l'))] [] = some (.c (.bool (great l')), [])) : ∃ N, runBody e N f12 [.c (.agg [c0, .sl f (enc l), .str s, .sl f' (enc l'), c4])] [] = some (.c (.bool (decide (1100 < s.length) || great l || great l')), []) := by
  refine ⟨1, run_of rfl ?_⟩
  show W _ _ b12 _ _ _ _
  have k1 : decide ((1100 : Int) < (s.length : Int)) = decide (1100 < s.length) := dec_eq rfl
  simp [b12, k1]
  cases g1 : decide (1100 < s.length) <;> cases g2 : great l <;> cases g3 : great l' <;> simp [doCall_c1 hc, doCall_c1 hc', g2, g3] <;> exact Ret_c (.inr rfl) rfl rfl rfl
theorem f13_ok (c0 c1 c2 c5 c6 c7 : CV) (f f' : Bool) (s s' : List UInt8) (l : List Lb) (es : List CV) (hc : e.call 10 [.c (.sl false (enc l))] [] = some (.c (.bool (great l)), [])) : ∃ N, runBody e N f13 [.c (.agg [c0, c1, c2, .str s, .str s', c5, c6, c7, .sl f (enc l), .sl f' es])] [] = some (.c (.bool (decide (61 < s.length) || decide (61 < s'.length) || decide (17 < es.length) || great l)), []) := by
  refine ⟨1, run_of rfl ?_⟩
  show W _ _ b13 _ _ _ _
  have k1 : decide ((61 : Int) < (s.length : Int)) = decide (61 < s.length) := dec_eq rfl
  have k2 : decide ((61 : Int) < (s'.length : Int)) = decide (61 < s'.length) := dec_eq rfl
  have k3 : decide ((17 : Int) < (es.length : Int)) = decide (17 < es.length) := dec_eq rfl
  simp [b13, k1]
  cases g1 : decide (61 < s.length) <;> cases g2 : decide (61 < s'.length) <;> cases g3 : decide (17 < es.length) <;> cases g4 : great l <;> simp [doCall_c1 hc, k2, k3, g2, g3, g4] <;> exact Ret_c (.inr rfl) rfl rfl rfl
end Go.Proofs.YtmckcikeefggdabGreatDoor
namespace Go.Proofs.YtmckcikeefggdabGreatDoor
open Go.Pi Go.Pi.S
variable {e : Env}
/-- The cells of an operation that the functions look at; the rest is anything. -/
structure Op where
  (k t : Int) (l1 l13 l15 l25 l28 l30 : List Lb) (s14 s20 s21 : List UInt8) (e11 e26 e29 : List CV) (f1 f11 f13 f15 f25 f26 f28 f29 f30 : Bool)
  (c2 c3 c4 c5 c6 c7 c8 c9 c10 c12 c16 c18 c19 c22 c23 c24 c27 c31 c32 c33 c34 : CV)
def Op.cells (o : Op) : List CV := [.int .i64 o.k, .sl o.f1 (enc o.l1), o.c2, o.c3, o.c4, o.c5, o.c6, o.c7, o.c8, o.c9, o.c10, .sl o.f11 o.e11, o.c12, .sl o.f13 (enc o.l13), .str o.s14, .sl o.f15 (enc o.l15), o.c16, .int .i64 o.t, o.c18, o.c19, .str o.s20, .str o.s21, o.c22, o.c23, o.c24, .sl o.f25 (enc o.l25), .sl o.f26 o.e26, o.c27, .sl o.f28 (enc o.l28), .sl o.f29 o.e29, .sl o.f30 (enc o.l30), o.c31, o.c32, o.c33, o.c34]
def great2 (s : List UInt8) (l l' : List Lb) : Bool := decide (1100 < s.length) || great l || great l'
def great4 (s s' : List UInt8) (l : List Lb) (es : List CV) : Bool := decide (61 < s.length) || decide (61 < s'.length) || decide (17 < es.length) || great l
def Op.great (o : Op) : Bool := YtmckcikeefggdabGreatDoor.great o.l1 || decide (40 < o.e11.length) || great2 o.s14 o.l13 o.l15 || great4 o.s20 o.s21 o.l25 o.e26 || YtmckcikeefggdabGreatDoor.great o.l28 || great3 o.e29 || YtmckcikeefggdabGreatDoor.great o.l30
structure Calls4 (e : Env) (o : Op) : Prop where
  a1 : e.call 10 [.c (.sl false (enc o.l1))] [] = some (.c (.bool (great o.l1)), [])
  a28 : e.call 10 [.c (.sl false (enc o.l28))] [] = some (.c (.bool (great o.l28)), [])
  a30 : e.call 10 [.c (.sl false (enc o.l30))] [] = some (.c (.bool (great o.l30)), [])
  b : ∀ c0 c1 c2 c3 c4 : CV, e.call 11 [.c (.agg [c0, c1, c2, c3, c4, .sl false o.e11])] [] = some (.c (.bool (decide (40 < o.e11.length))), [])
  c : ∀ c0 c4 : CV, e.call 12 [.c (.agg [c0, .sl false (enc o.l13), .str o.s14, .sl false (enc o.l15), c4])] [] = some (.c (.bool (great2 o.s14 o.l13 o.l15)), [])
  d : ∀ c0 c1 c2 c5 c6 c7 : CV, e.call 13 [.c (.agg [c0, c1, c2, .str o.s20, .str o.s21, c5, c6, c7, .sl false (enc o.l25), .sl false o.e26])] [] = some (.c (.bool (great4 o.s20 o.s21 o.l25 o.e26)), [])
  g : e.call 14 [.c (.sl false o.e29)] [] = some (.c (.bool (great3 o.e29)), [])
theorem f4_ok (o : Op) (hc : Calls4 e o) : ∃ N, runBody e N f4 [.c (.agg o.cells)] [] = some (.c (.bool o.great), []) := by
  refine ⟨1, run_of rfl ?_⟩
  show W _ _ b4 _ _ _ _
  simp [b4, Op.cells, doCall_c1 hc.a1]
  have hb := fun c0 c1 c2 c3 c4 h => doCall_c1 (h := h) (hc.b c0 c1 c2 c3 c4)
  have hcc := fun c0 c4 h => doCall_c1 (h := h) (hc.c c0 c4)
  have hd := fun c0 c1 c2 c5 c6 c7 h => doCall_c1 (h := h) (hc.d c0 c1 c2 c5 c6 c7)
  cases g1 : great o.l1 with
  | true => simp [Op.great, g1]; exact Ret_c (.inr rfl) rfl rfl rfl
  | false =>
    simp [Op.great, g1, hb]
    cases g2 : decide (40 < o.e11.length) with
    | true => simp [g2]; exact Ret_c (.inr rfl) rfl rfl rfl
    | false =>
      simp [hcc]
      cases g3 : great2 o.s14 o.l13 o.l15 with
      | true => simp; exact Ret_c (.inr rfl) rfl rfl rfl
      | false =>
        simp [hd]
        cases g4 : great4 o.s20 o.s21 o.l25 o.e26 with
        | true => simp; exact Ret_c (.inr rfl) rfl rfl rfl
        | false =>
          simp [doCall_c1 hc.a28]
          cases g5 : great o.l28 with
          | true => simp; exact Ret_c (.inr rfl) rfl rfl rfl
          | false =>
            simp [doCall_c1 hc.g]
            cases g6 : great3 o.e29 with
            | true => simp; exact Ret_c (.inr rfl) rfl rfl rfl
            | false =>
              simp [doCall_c1 hc.a30]
              exact Ret_c (.inr rfl) rfl rfl rfl
end Go.Proofs.YtmckcikeefggdabGreatDoor
namespace Go.Proofs.YtmckcikeefggdabGreatDoor
open Go.Pi Go.Pi.S
variable {e : Env}
def ofTrace (t n : Int) : Int := if okN n && decide (0 ≤ t) then t.tmod n else 0
def Op.owner (o : Op) (n : Int) : Int :=
  if o.k = 1 ∨ o.k = 2 ∨ o.k = 3 then assign n (hashOf o.l1) else if o.k = 4 then assign n (hashOf o.l13) else if o.k = 5 then ofTrace o.t n else if o.k = 6 then assign n (hashOf o.l28) else if o.k = 7 then assign n (hashOf o.l30) else 0
structure Calls8 (e : Env) (f : Nat) (o : Op) (n : Int) : Prop where
  a1 : e.call f [.c (.sl false (enc o.l1)), .c (.int .i64 n)] [] = some (.c (.int .i64 (assign n (hashOf o.l1))), [])
  a13 : e.call f [.c (.sl false (enc o.l13)), .c (.int .i64 n)] [] = some (.c (.int .i64 (assign n (hashOf o.l13))), [])
  a28 : e.call f [.c (.sl false (enc o.l28)), .c (.int .i64 n)] [] = some (.c (.int .i64 (assign n (hashOf o.l28))), [])
  a30 : e.call f [.c (.sl false (enc o.l30)), .c (.int .i64 n)] [] = some (.c (.int .i64 (assign n (hashOf o.l30))), [])
theorem f8_ok (o : Op) (n : Int) (hc : Calls8 e 6 o n) (ht : e.call 21 [.c (.int .i64 o.t), .c (.int .i64 n)] [] = some (.c (.int .i64 (ofTrace o.t n)), [])) : ∃ N, runBody e N f8 [.c (.agg o.cells), .c (.int .i64 n)] [] = some (.c (.int .i64 (o.owner n)), []) := by
  refine ⟨1, run_of rfl ?_⟩
  show W _ _ b8 _ _ _ _
  have a1 := fun h => doCall_c2 (h := h) hc.a1
  have a13 := fun h => doCall_c2 (h := h) hc.a13
  have a28 := fun h => doCall_c2 (h := h) hc.a28
  have a30 := fun h => doCall_c2 (h := h) hc.a30
  have att := fun h => doCall_c2 (h := h) ht
  by_cases k1 : o.k = 1
  · simp [b8, Op.cells, k1, a1]; exact Ret_c (.inr rfl) rfl (by simp [Op.owner, k1]) rfl
  by_cases k2 : o.k = 2
  · simp [b8, Op.cells, k2, a1]; exact Ret_c (.inr rfl) rfl (by simp [Op.owner, k2]) rfl
  by_cases k3 : o.k = 3
  · simp [b8, Op.cells, k3, a1]; exact Ret_c (.inr rfl) rfl (by simp [Op.owner, k3]) rfl
  by_cases k4 : o.k = 4
  · simp [b8, Op.cells, k4, a13]; exact Ret_c (.inr rfl) rfl (by simp [Op.owner, k4]) rfl
  by_cases k5 : o.k = 5
  · simp [b8, Op.cells, k5, att]; exact Ret_c (.inr rfl) rfl (by simp [Op.owner, k5]) rfl
  by_cases k6 : o.k = 6
  · simp [b8, Op.cells, k6, a28]; exact Ret_c (.inr rfl) rfl (by simp [Op.owner, k6]) rfl
  by_cases k7 : o.k = 7
  · simp [b8, Op.cells, k7, a30]; exact Ret_c (.inr rfl) rfl (by simp [Op.owner, k7]) rfl
  have q1 : (o.k == 1) = false := by simpa using k1
  have q2 : (o.k == 2) = false := by simpa using k2
  have q3 : (o.k == 3) = false := by simpa using k3
  have q4 : (o.k == 4) = false := by simpa using k4
  have q5 : (o.k == 5) = false := by simpa using k5
  have q6 : (o.k == 6) = false := by simpa using k6
  have q7 : (o.k == 7) = false := by simpa using k7
  simp [b8, Op.cells, q1, q2, q3, q4, q5, q6, q7]
  exact Ret_c (.inr rfl) rfl (by simp [Op.owner, k1, k2, k3, k4, k5, k6, k7]) rfl
theorem f9_ok (o : Op) (n : Int) (hc : Calls8 e 7 o n) (ht : e.call 19 [.c (.int .i64 n)] [] = some (.c (.bool (okN n)), [])) : ∃ N, runBody e N f9 [.c (.agg o.cells), .c (.int .i64 n)] [] = some (.c (.int .i64 (o.owner n)), []) := by
  refine ⟨1, run_of rfl ?_⟩
  show W _ _ b9 _ _ _ _
  have a1 := fun h => doCall_c2 (h := h) hc.a1
  have a13 := fun h => doCall_c2 (h := h) hc.a13
  have a28 := fun h => doCall_c2 (h := h) hc.a28
  have a30 := fun h => doCall_c2 (h := h) hc.a30
  have att := fun h => doCall_c1 (h := h) ht
  by_cases k1 : o.k = 1
  · simp [b9, Op.cells, k1, a1]; exact Ret_c (.inr rfl) rfl (by simp [Op.owner, k1]) rfl
  by_cases k2 : o.k = 2
  · simp [b9, Op.cells, k2, a1]; exact Ret_c (.inr rfl) rfl (by simp [Op.owner, k2]) rfl
  by_cases k3 : o.k = 3
  · simp [b9, Op.cells, k3, a1]; exact Ret_c (.inr rfl) rfl (by simp [Op.owner, k3]) rfl
  by_cases k4 : o.k = 4
  · simp [b9, Op.cells, k4, a13]; exact Ret_c (.inr rfl) rfl (by simp [Op.owner, k4]) rfl
  by_cases k5 : o.k = 5
  · simp [b9, Op.cells, k5, att]
    cases hn : okN n with
    | false => simp; exact Ret_c (.inr rfl) rfl (by simp [Op.owner, k5, ofTrace, hn]) rfl
    | true =>
      have hne : n ≠ 0 := by simp [okN] at hn; omega
      by_cases h3 : 0 ≤ o.t
      · simp [h3, bin_rem hne]; exact Ret_c (.inr rfl) rfl (by simp [Op.owner, k5, ofTrace, hn, h3]) rfl
      · simp [h3]; exact Ret_c (.inr rfl) rfl (by simp [Op.owner, k5, ofTrace, hn, h3]) rfl
  by_cases k6 : o.k = 6
  · simp [b9, Op.cells, k6, a28]; exact Ret_c (.inr rfl) rfl (by simp [Op.owner, k6]) rfl
  by_cases k7 : o.k = 7
  · simp [b9, Op.cells, k7, a30]; exact Ret_c (.inr rfl) rfl (by simp [Op.owner, k7]) rfl
  have q1 : (o.k == 1) = false := by simpa using k1
  have q2 : (o.k == 2) = false := by simpa using k2
  have q3 : (o.k == 3) = false := by simpa using k3
  have q4 : (o.k == 4) = false := by simpa using k4
  have q5 : (o.k == 5) = false := by simpa using k5
  have q6 : (o.k == 6) = false := by simpa using k6
  have q7 : (o.k == 7) = false := by simpa using k7
  simp [b9, Op.cells, q1, q2, q3, q4, q5, q6, q7]
  exact Ret_c (.inr rfl) rfl (by simp [Op.owner, k1, k2, k3, k4, k5, k6, k7]) rfl
end Go.Proofs.YtmckcikeefggdabGreatDoor
namespace Go.Proofs.YtmckcikeefggdabGreatDoor
open Go.Pi Go.Pi.S
variable {e : Env}
def Op.wk (o : Op) : Op := { o with f1 := false, f11 := false, f13 := false, f15 := false, f25 := false, f26 := false, f28 := false, f29 := false, f30 := false, c2 := o.c2.wk0, c3 := o.c3.wk0, c4 := o.c4.wk0, c5 := o.c5.wk0, c6 := o.c6.wk0, c7 := o.c7.wk0, c8 := o.c8.wk0, c9 := o.c9.wk0, c10 := o.c10.wk0, c12 := o.c12.wk0, c16 := o.c16.wk0, c18 := o.c18.wk0, c19 := o.c19.wk0, c22 := o.c22.wk0, c23 := o.c23.wk0, c24 := o.c24.wk0, c27 := o.c27.wk0, c31 := o.c31.wk0, c32 := o.c32.wk0, c33 := o.c33.wk0, c34 := o.c34.wk0 }
structure Calls3 (e : Env) (o : Op) (n : Int) : Prop where
  a4 : e.call 4 [.c (.agg o.wk.cells)] [] = some (.c (.bool o.great), [])
  a5 : e.call 5 [] [] = some (.c (.bool true), [])
  a6 : o.great = false → e.call 6 [.c (.sl false (enc o.l1)), .c (.int .i64 n)] [] = some (.c (.int .i64 (assign n (hashOf o.l1))), [])
  a7 : o.great = false → e.call 7 [.c (.sl false (enc o.l1)), .c (.int .i64 n)] [] = some (.c (.int .i64 (assign n (hashOf o.l1))), [])
  a8 : o.great = false → e.call 8 [.c (.agg o.wk.cells), .c (.int .i64 n)] [] = some (.c (.int .i64 (o.owner n)), [])
  a9 : o.great = false → e.call 9 [.c (.agg o.wk.cells), .c (.int .i64 n)] [] = some (.c (.int .i64 (o.owner n)), [])
theorem doCall_c0 {f : Nat} {z : CV} {h : Mem} (hc : e.call f [] [] = some (.c z, [])) : doCall e h f [] = some (.c z, h) := doCall_c (vs := []) hc
theorem b3_eq : ∃ anc, b3 =
   (.seq (.ops [a 2 (.box 42 (T 0)),
     a 4 (.mov (.k (.bool false)))])
    (.seq (.seq (.ops [a 5 (.load true 35 (T 2)),
     a 6 (.call 4 [(T 5)])])
    (.cond (T 6) (.seq (.ops [a 7 (.call 5 []),
     m 4 7])
    .ret)
    .skip))
    (.seq (.dops [q 8 1 2,
     l 9 8,
     m 10 1,
     a 11 (.call 6 [(T 9), (T 10)]),
     q 12 1 2,
     l 13 12,
     m 14 1,
     a 15 (.call 7 [(T 13), (T 14)]),
     a 16 (.bin .eql (T 11) (T 15)),
     m 17 16,
     g 18 (.load true 35 (T 2)) 17 true,
     g 19 (.mov (T 1)) 17 true,
     g 20 (.call 8 [(T 18), (T 19)]) 17 true,
     g 21 (.load true 35 (T 2)) 17 true,
     g 22 (.mov (T 1)) 17 true,
     g 23 (.call 9 [(T 21), (T 22)]) 17 true,
     g 24 (.bin .eql (T 20) (T 23)) 17 true,
     a 25 (.pick (T 17) (T 24) (.k (.bool false))),
     m 26 25,
     g 27 (.call 5 []) 26 true,
     a 28 (.pick (T 26) (T 27) (.k (.bool false))),
     m 4 28] anc)
    .ret))) := ⟨_, rfl⟩
theorem f3_ok (o : Op) (n : Int) (hc : Calls3 e o n) : ∃ N, runBody e N f3 [.c (.agg o.cells), .c (.int .i64 n)] [] = some (.c (.bool true), []) := by
  refine ⟨1, run_of rfl ?_⟩
  show W _ _ b3 _ _ _ _
  have a4 := fun h => doCall_c1 (h := h) hc.a4
  have a5 := fun h => doCall_c0 (h := h) hc.a5
  simp only [Op.wk, Op.cells] at a4
  obtain ⟨anc, hb3⟩ := b3_eq
  simp [hb3, Op.cells, a4]
  cases hg : o.great with
  | true =>
    simp [a5]
    exact Ret_c (.inr rfl) rfl rfl rfl
  | false =>
    simp
    refine W_dops' rfl (same_one _ _) ?_
    have b6 := hc.a6 hg
    have b7 := hc.a7 hg
    have b8 := hc.a8 hg
    have b9 := hc.a9 hg
    have b5 := hc.a5
    have d6 := fun h => doCall_c2 (h := h) b6
    have d7 := fun h => doCall_c2 (h := h) b7
    have d8 := fun h => doCall_c2 (h := h) b8
    have d9 := fun h => doCall_c2 (h := h) b9
    simp only [Op.wk, Op.cells] at b8 b9 d8 d9
    simp [a5, b5, b6, b7, b8, b9, d6, d7, d8, d9, X.ids.idsL, X.ids]
    exact Ret_c (.inr rfl) rfl rfl rfl
end Go.Proofs.YtmckcikeefggdabGreatDoor
namespace Go.Proofs.YtmckcikeefggdabGreatDoor
open Go.Pi Go.Pi.S
variable {e : Env}
/-! ### what the arguments tell -/
def at' (i : Nat) (cs : List CV) : CV := match cs[i]? with | some v => v | none => .nilptr
def intOf : CV → Int
  | .int _ n => n
  | _ => 0
def slOf : CV → List CV
  | .sl _ es => es
  | _ => []
def flOf : CV → Bool
  | .sl f _ => f
  | _ => false
def decL (es : List CV) : List Lb := es.map fun v => (cellStr 0 v, cellStr 1 v)
theorem dec_enc (l : List Lb) : decL (enc l) = l := by
  induction l with
  | nil => rfl
  | cons p r ih =>
    simp only [decL, enc, List.map_cons, List.cons.injEq] at ih ⊢
    exact ⟨rfl, ih⟩
def cellsOf : CV → List CV
  | .agg cs => cs
  | _ => []
def cvOf' : List X → Nat → CV
  | .c v :: _, 0 => v
  | _ :: r, i + 1 => cvOf' r i
  | _, _ => .nilptr
def lab (v : CV) : List Lb := decL (slOf v)
def opOf (cs : List CV) : Op :=
  { k := intOf (at' 0 cs), l1 := lab (at' 1 cs), f1 := flOf (at' 1 cs), c2 := at' 2 cs, c3 := at' 3 cs, c4 := at' 4 cs, c5 := at' 5 cs, c6 := at' 6 cs, c7 := at' 7 cs, c8 := at' 8 cs, c9 := at' 9 cs, c10 := at' 10 cs,
    e11 := slOf (at' 11 cs), f11 := flOf (at' 11 cs), c12 := at' 12 cs, l13 := lab (at' 13 cs), f13 := flOf (at' 13 cs), s14 := strOf (at' 14 cs), l15 := lab (at' 15 cs), f15 := flOf (at' 15 cs), c16 := at' 16 cs,
    t := intOf (at' 17 cs), c18 := at' 18 cs, c19 := at' 19 cs, s20 := strOf (at' 20 cs), s21 := strOf (at' 21 cs), c22 := at' 22 cs, c23 := at' 23 cs, c24 := at' 24 cs, l25 := lab (at' 25 cs), f25 := flOf (at' 25 cs),
    e26 := slOf (at' 26 cs), f26 := flOf (at' 26 cs), c27 := at' 27 cs, l28 := lab (at' 28 cs), f28 := flOf (at' 28 cs), e29 := slOf (at' 29 cs), f29 := flOf (at' 29 cs), l30 := lab (at' 30 cs), f30 := flOf (at' 30 cs),
    c31 := at' 31 cs, c32 := at' 32 cs, c33 := at' 33 cs, c34 := at' 34 cs }
theorem opOf_cells (o : Op) : opOf o.cells = o := by
  simp [opOf, Op.cells, at', intOf, slOf, flOf, strOf, lab, dec_enc]
/-! ### a function known by its answers -/
noncomputable def spec (C : List X → Prop) (Z : List X → CV) : List X → Mem → Option (X × Mem) := fun a h => open Classical in if C a ∧ h = [] then some (.c (Z a), []) else none
theorem spec_eq {C : List X → Prop} {Z : List X → CV} {a : List X} {z : CV} (h : C a) (hz : Z a = z) : spec C Z a [] = some (.c z, []) := by simp [spec, h, hz]
theorem spec_ok {C : List X → Prop} {Z : List X → CV} {fn : PFn} (hr : ∀ a, C a → ∃ N, runBody e N fn a [] = some (.c (Z a), [])) : ∀ args h z h', spec C Z args h = some (z, h') → ∃ N, runBody e N fn args h = some (z, h') := by
  intro args h z h' hs
  simp only [spec] at hs
  split at hs
  · rename_i hc; obtain ⟨hc, rfl⟩ := hc
    cases hs; exact hr args hc
  · cases hs
theorem spec_ok' {C : List X → Prop} {Z : List X → CV} {fn : PFn} (hr : ∀ a, C a → ∃ z, Z a = z ∧ ∃ N, runBody e N fn a [] = some (.c z, [])) : ∀ args h z h', spec C Z args h = some (z, h') → ∃ N, runBody e N fn args h = some (z, h') :=
  spec_ok fun a hc => by obtain ⟨z, hz, hr⟩ := hr a hc; rw [hz]; exact hr
theorem addC_at (S : Pi.Call) (f : Nat) (g : List X → Mem → Option (X × Mem)) (a : List X) (h : Mem) : addC S f g f a h = g a h := by simp only [addC, Nat.beq_refl, cond_true]
theorem addC_ne (S : Pi.Call) {f f' : Nat} (g : List X → Mem → Option (X × Mem)) (a : List X) (h : Mem) (hf : Nat.beq f' f = false) : addC S f g f' a h = S f' a h := by simp only [addC, hf, cond_false]
/-! ### the answers -/
def cStr (a : List X) : Prop := ∃ s : List UInt8, a = [.c (.str s)] ∧ s.length ≤ 2147483648
def cLab (a : List X) : Prop := ∃ l : List Lb, a = [.c (.sl false (enc l))] ∧ size l ≤ 2147483000 ∧ l.length < 4294967296
def cLong (a : List X) : Prop := ∃ l : List Lb, a = [.c (.sl false (enc l))] ∧ l.length < 9223372036854775808
def zHash (a : List X) : CV := .int .i64 (IntKind.i64.wrap (hashFrom (strOf (cvOf' a 0))))
def zQs (a : List X) : CV := .str (qs (strOf (cvOf' a 0)))
def zFmt (a : List X) : CV := .str (fmt (lab (cvOf' a 0)))
def zHashL (a : List X) : CV := .int .i64 (hashOf (lab (cvOf' a 0)))
def zGreat (a : List X) : CV := .bool (great (lab (cvOf' a 0)))
def c11 (a : List X) : Prop := ∃ (c0 c1 c2 c3 c4 : CV) (es : List CV), a = [.c (.agg [c0, c1, c2, c3, c4, .sl false es])]
def z11 (a : List X) : CV := .bool (decide (40 < (slOf (at' 5 (cellsOf (cvOf' a 0)))).length))
def c12 (a : List X) : Prop := ∃ (c0 c4 : CV) (s : List UInt8) (l l' : List Lb), a = [.c (.agg [c0, .sl false (enc l), .str s, .sl false (enc l'), c4])] ∧ l.length < 9223372036854775808 ∧ l'.length < 9223372036854775808
def z12 (a : List X) : CV := .bool (great2 (strOf (at' 2 (cellsOf (cvOf' a 0)))) (lab (at' 1 (cellsOf (cvOf' a 0)))) (lab (at' 3 (cellsOf (cvOf' a 0)))))
def c13 (a : List X) : Prop := ∃ (c0 c1 c2 c5 c6 c7 : CV) (s s' : List UInt8) (l : List Lb) (es : List CV), a = [.c (.agg [c0, c1, c2, .str s, .str s', c5, c6, c7, .sl false (enc l), .sl false es])] ∧ l.length < 9223372036854775808
def z13 (a : List X) : CV := .bool (great4 (strOf (at' 3 (cellsOf (cvOf' a 0)))) (strOf (at' 4 (cellsOf (cvOf' a 0)))) (lab (at' 8 (cellsOf (cvOf' a 0)))) (slOf (at' 9 (cellsOf (cvOf' a 0)))))
def c14 (a : List X) : Prop := ∃ es : List CV, a = [.c (.sl false es)] ∧ T3 es ∧ es.length < 9223372036854775808
def z14 (a : List X) : CV := .bool (great3 (slOf (cvOf' a 0)))
def cInt (a : List X) : Prop := ∃ n : Int, a = [.c (.int .i64 n)]
def z19 (a : List X) : CV := .bool (okN (intOf (cvOf' a 0)))
def cInt2 (a : List X) : Prop := ∃ t n : Int, a = [.c (.int .i64 t), .c (.int .i64 n)]
def z21 (a : List X) : CV := .int .i64 (ofTrace (intOf (cvOf' a 0)) (intOf (cvOf' a 1)))
def cLabN (a : List X) : Prop := ∃ (l : List Lb) (n : Int), a = [.c (.sl false (enc l)), .c (.int .i64 n)] ∧ size l ≤ 2147483000 ∧ l.length < 4294967296
def zAssign (a : List X) : CV := .int .i64 (assign (intOf (cvOf' a 1)) (hashOf (lab (cvOf' a 0))))
structure Op.Fit (o : Op) : Prop where
  h1 : o.l1.length < 9223372036854775808
  h13 : o.l13.length < 9223372036854775808
  h15 : o.l15.length < 9223372036854775808
  h25 : o.l25.length < 9223372036854775808
  h28 : o.l28.length < 9223372036854775808
  h30 : o.l30.length < 9223372036854775808
  h29 : o.e29.length < 9223372036854775808
  t29 : T3 o.e29
def cOp (a : List X) : Prop := ∃ o : Op, a = [.c (.agg o.cells)] ∧ o.Fit
def zGreatOp (a : List X) : CV := .bool (opOf (cellsOf (cvOf' a 0))).great
def cOpN (a : List X) : Prop := ∃ (o : Op) (n : Int), a = [.c (.agg o.cells), .c (.int .i64 n)] ∧ o.Fit ∧ o.great = false
def zOwner (a : List X) : CV := .int .i64 ((opOf (cellsOf (cvOf' a 0))).owner (intOf (cvOf' a 1)))
theorem small {l : List Lb} (h : great l = false) : size l ≤ 2147483000 ∧ l.length < 4294967296 := by
  simp only [great, Bool.or_eq_false_iff, decide_eq_false_iff_not] at h
  have h2 : ∀ p ∈ l, p.1.length + 2 * p.2.length + 4 ≤ 467 := by
    intro p hp
    have := h.1
    rw [List.any_eq_false] at this
    have hq := this p hp
    simp only [big1, Bool.or_eq_true, decide_eq_true_iff, not_or] at hq
    omega
  have h3 : size l ≤ l.length * 467 := by
    clear h
    induction l with
    | nil => simp [size]
    | cons p r ih =>
      have h4 := h2 p List.mem_cons_self
      have h5 := ih fun q hq => h2 q (List.mem_cons_of_mem _ hq)
      simp only [size, List.map_cons, List.sum_cons, List.length_cons] at h5 ⊢
      rw [Nat.succ_mul]; omega
  omega
theorem Op.smalls {o : Op} (h : o.great = false) : (size o.l1 ≤ 2147483000 ∧ o.l1.length < 4294967296) ∧ (size o.l13 ≤ 2147483000 ∧ o.l13.length < 4294967296) ∧ (size o.l28 ≤ 2147483000 ∧ o.l28.length < 4294967296) ∧ (size o.l30 ≤ 2147483000 ∧ o.l30.length < 4294967296) := by
  simp only [Op.great, great2, Bool.or_eq_false_iff] at h
  obtain ⟨⟨⟨⟨⟨⟨h1, -⟩, ⟨-, h13⟩, -⟩, -⟩, h28⟩, -⟩, h30⟩ := h
  exact ⟨small h1, small h13, small h28, small h30⟩
theorem fmt_len {l : List Lb} (h : size l ≤ 2147483000) : (fmt l).length ≤ 2147483648 := by
  have p1 := preF_len l l.length (by omega)
  have p2 := size_le l l.length
  simp only [fmt, List.length_append, List.length_cons, List.length_nil]; omega
end Go.Proofs.YtmckcikeefggdabGreatDoor
namespace Go.Proofs.YtmckcikeefggdabGreatDoor
open Go.Pi Go.Pi.S
set_option maxRecDepth 100000
noncomputable def prim135 : List X → Mem → Option (X × Mem) := primId
noncomputable def prim154 : List X → Mem → Option (X × Mem) := primIB
noncomputable def tb0 : List (Option Fun) := [none, none, none, some (.body f3), some (.body f4), some (.body f5), some (.body f6), some (.body f7), some (.body f8), some (.body f9), some (.body f10), some (.body f11), some (.body f12), some (.body f13), some (.body f14), some (.body f15)]
noncomputable def tb1 : List (Option Fun) := [some (.body f16), some (.body f17), some (.body f18), some (.body f19), some (.body f20), some (.body f21), some (.body f22), some (.body f23), some (.body f24), some (.body f25), some (.body f26), some (.body f27), some (.body f28), some (.body f29), some (.body f30), some (.body f31)]
noncomputable def tb2 : List (Option Fun) := [some (.body f32), some (.body f33), some (.body f34), some (.body f35), some (.body f36), some (.body f37), some (.body f38), some (.body f39), some (.body f40), some (.body f41), some (.body f42), some (.body f43), some (.body f44), some (.body f45), some (.body f46), some (.body f47)]
noncomputable def tb3 : List (Option Fun) := [some (.body f48), some (.body f49), some (.body f50), some (.body f51), some (.body f52), some (.body f53), some (.body f54), some (.body f55), some (.body f56), some (.body f57), some (.body f58), some (.body f59), some (.body f60), some (.body f61), some (.body f62), some (.body f63)]
noncomputable def tb4 : List (Option Fun) := [some (.body f64), some (.body f65), some (.body f66), some (.body f67), some (.body f68), some (.body f69), some (.body f70), some (.body f71), some (.body f72), some (.body f73), some (.body f74), some (.body f75), some (.body f76), some (.body f77), some (.body f78), some (.body f79)]
noncomputable def tb5 : List (Option Fun) := [some (.body f80), some (.body f81), some (.body f82), some (.body f83), some (.body f84), some (.body f85), some (.body f86), some (.body f87), some (.body f88), some (.body f89), some (.body f90), some (.body f91), none, some (.body f93), some (.body f94), some (.body f95)]
noncomputable def tb6 : List (Option Fun) := [some (.body f96), some (.body f97), some (.body f98), some (.body f99), some (.body f100), some (.body f101), some (.body f102), some (.body f103), some (.body f104), some (.body f105), some (.body f106), some (.body f107), some (.body f108), some (.body f109), some (.body f110), some (.body f111)]
noncomputable def tb7 : List (Option Fun) := [some (.body f112), some (.body f113), some (.body f114), some (.body f115), some (.body f116), some (.body f117), some (.body f118), none, some (.body f120), some (.body f121), some (.body f122), some (.body f123), some (.body f124), some (.body f125), some (.body f126), some (.body f127)]
noncomputable def tb8 : List (Option Fun) := [some (.body f128), some (.body f129), some (.body f130), some (.body f131), some (.body f132), some (.body f133), some (.body f134), some (.prim prim135), some (.body f136), none, some (.body f138), some (.body f139), some (.body f140), none, none, none]
noncomputable def tb9 : List (Option Fun) := [none, none, some (.body f146), some (.body f147), some (.body f148), some (.body f149), some (.body f150), some (.body f151), some (.body f152), some (.body f153), some (.prim prim154), some (.body f155), some (.body f156), none, none, none]
noncomputable def tb10 : List (Option Fun) := [some (.body f160), some (.body f161), some (.body f162), some (.body f163), some (.body f164), some (.body f165), some (.body f166), none, none, some (.body f169), some (.body f170), some (.body f171), some (.body f172), some (.body f173), some (.body f174), some (.body f175)]
noncomputable def tb11 : List (Option Fun) := [some (.body f176), some (.body f177), some (.body f178), some (.body f179), some (.body f180), some (.body f181), some (.body f182), some (.body f183), some (.body f184), some (.body f185), some (.body f186), some (.body f187), some (.body f188), some (.body f189), some (.body f190), some (.body f191)]
noncomputable def tb12 : List (Option Fun) := [some (.body f192), some (.body f193), some (.body f194), some (.body f195), some (.body f196), some (.body f197), some (.body f198), some (.body f199), none, none, none, none, none, none, none, none]
noncomputable def tb13 : List (Option Fun) := [none, none, none, none, none, none, none, none, none, none, none, none, none, none, none, none]
noncomputable def tb14 : List (Option Fun) := [none, none, none, none, none, none, none, none, none, none, none, none, none, none, none, none]
noncomputable def tbl : List (List (Option Fun)) := [tb0, tb1, tb2, tb3, tb4, tb5, tb6, tb7, tb8, tb9, tb10, tb11, tb12, tb13, tb14]
def glob0 : List CV := [.int .u8 (.ofNat 0), .int .u8 (.ofNat 0), .int .u8 (.ofNat 0), .int .u8 (.ofNat 0), .int .u8 (.ofNat 0), .int .u8 (.ofNat 0), .int .u8 (.ofNat 0), .int .u8 (.ofNat 0), .int .u8 (.ofNat 0), .int .u8 (.ofNat 1), .int .u8 (.ofNat 1), .int .u8 (.ofNat 1), .int .u8 (.ofNat 1), .int .u8 (.ofNat 1), .int .u8 (.ofNat 0), .int .u8 (.ofNat 0), .int .u8 (.ofNat 0), .int .u8 (.ofNat 0), .int .u8 (.ofNat 0), .int .u8 (.ofNat 0), .int .u8 (.ofNat 0), .int .u8 (.ofNat 0), .int .u8 (.ofNat 0), .int .u8 (.ofNat 0), .int .u8 (.ofNat 0), .int .u8 (.ofNat 0), .int .u8 (.ofNat 0), .int .u8 (.ofNat 0), .int .u8 (.ofNat 0), .int .u8 (.ofNat 0), .int .u8 (.ofNat 0), .int .u8 (.ofNat 0), .int .u8 (.ofNat 1), .int .u8 (.ofNat 0), .int .u8 (.ofNat 0), .int .u8 (.ofNat 0), .int .u8 (.ofNat 0), .int .u8 (.ofNat 0), .int .u8 (.ofNat 0), .int .u8 (.ofNat 0), .int .u8 (.ofNat 0), .int .u8 (.ofNat 0), .int .u8 (.ofNat 0), .int .u8 (.ofNat 0), .int .u8 (.ofNat 0), .int .u8 (.ofNat 0), .int .u8 (.ofNat 0), .int .u8 (.ofNat 0), .int .u8 (.ofNat 0), .int .u8 (.ofNat 0), .int .u8 (.ofNat 0), .int .u8 (.ofNat 0), .int .u8 (.ofNat 0), .int .u8 (.ofNat 0), .int .u8 (.ofNat 0), .int .u8 (.ofNat 0), .int .u8 (.ofNat 0), .int .u8 (.ofNat 0), .int .u8 (.ofNat 0), .int .u8 (.ofNat 0), .int .u8 (.ofNat 0), .int .u8 (.ofNat 0), .int .u8 (.ofNat 0), .int .u8 (.ofNat 0), .int .u8 (.ofNat 0), .int .u8 (.ofNat 0), .int .u8 (.ofNat 0), .int .u8 (.ofNat 0), .int .u8 (.ofNat 0), .int .u8 (.ofNat 0), .int .u8 (.ofNat 0), .int .u8 (.ofNat 0), .int .u8 (.ofNat 0), .int .u8 (.ofNat 0), .int .u8 (.ofNat 0), .int .u8 (.ofNat 0), .int .u8 (.ofNat 0), .int .u8 (.ofNat 0), .int .u8 (.ofNat 0), .int .u8 (.ofNat 0), .int .u8 (.ofNat 0), .int .u8 (.ofNat 0), .int .u8 (.ofNat 0), .int .u8 (.ofNat 0), .int .u8 (.ofNat 0), .int .u8 (.ofNat 0), .int .u8 (.ofNat 0), .int .u8 (.ofNat 0), .int .u8 (.ofNat 0), .int .u8 (.ofNat 0), .int .u8 (.ofNat 0), .int .u8 (.ofNat 0), .int .u8 (.ofNat 0), .int .u8 (.ofNat 0), .int .u8 (.ofNat 0), .int .u8 (.ofNat 0), .int .u8 (.ofNat 0), .int .u8 (.ofNat 0), .int .u8 (.ofNat 0), .int .u8 (.ofNat 0), .int .u8 (.ofNat 0), .int .u8 (.ofNat 0), .int .u8 (.ofNat 0), .int .u8 (.ofNat 0), .int .u8 (.ofNat 0), .int .u8 (.ofNat 0), .int .u8 (.ofNat 0), .int .u8 (.ofNat 0), .int .u8 (.ofNat 0), .int .u8 (.ofNat 0), .int .u8 (.ofNat 0), .int .u8 (.ofNat 0), .int .u8 (.ofNat 0), .int .u8 (.ofNat 0), .int .u8 (.ofNat 0), .int .u8 (.ofNat 0), .int .u8 (.ofNat 0), .int .u8 (.ofNat 0), .int .u8 (.ofNat 0), .int .u8 (.ofNat 0), .int .u8 (.ofNat 0), .int .u8 (.ofNat 0), .int .u8 (.ofNat 0), .int .u8 (.ofNat 0), .int .u8 (.ofNat 0), .int .u8 (.ofNat 0), .int .u8 (.ofNat 0), .int .u8 (.ofNat 0), .int .u8 (.ofNat 0), .int .u8 (.ofNat 0), .int .u8 (.ofNat 0), .int .u8 (.ofNat 0), .int .u8 (.ofNat 0), .int .u8 (.ofNat 0), .int .u8 (.ofNat 0), .int .u8 (.ofNat 0), .int .u8 (.ofNat 0), .int .u8 (.ofNat 0), .int .u8 (.ofNat 0), .int .u8 (.ofNat 0), .int .u8 (.ofNat 0), .int .u8 (.ofNat 0), .int .u8 (.ofNat 0), .int .u8 (.ofNat 0), .int .u8 (.ofNat 0), .int .u8 (.ofNat 0), .int .u8 (.ofNat 0), .int .u8 (.ofNat 0), .int .u8 (.ofNat 0), .int .u8 (.ofNat 0), .int .u8 (.ofNat 0), .int .u8 (.ofNat 0), .int .u8 (.ofNat 0), .int .u8 (.ofNat 0), .int .u8 (.ofNat 0), .int .u8 (.ofNat 0), .int .u8 (.ofNat 0), .int .u8 (.ofNat 0), .int .u8 (.ofNat 0), .int .u8 (.ofNat 0), .int .u8 (.ofNat 0), .int .u8 (.ofNat 0), .int .u8 (.ofNat 0), .int .u8 (.ofNat 0), .int .u8 (.ofNat 0), .int .u8 (.ofNat 0), .int .u8 (.ofNat 0), .int .u8 (.ofNat 0), .int .u8 (.ofNat 0), .int .u8 (.ofNat 0), .int .u8 (.ofNat 0), .int .u8 (.ofNat 0), .int .u8 (.ofNat 0), .int .u8 (.ofNat 0), .int .u8 (.ofNat 0), .int .u8 (.ofNat 0), .int .u8 (.ofNat 0), .int .u8 (.ofNat 0), .int .u8 (.ofNat 0), .int .u8 (.ofNat 0), .int .u8 (.ofNat 0), .int .u8 (.ofNat 0), .int .u8 (.ofNat 0), .int .u8 (.ofNat 0), .int .u8 (.ofNat 0), .int .u8 (.ofNat 0), .int .u8 (.ofNat 0), .int .u8 (.ofNat 0), .int .u8 (.ofNat 0), .int .u8 (.ofNat 0), .int .u8 (.ofNat 0), .int .u8 (.ofNat 0), .int .u8 (.ofNat 0), .int .u8 (.ofNat 0), .int .u8 (.ofNat 0), .int .u8 (.ofNat 0), .int .u8 (.ofNat 0), .int .u8 (.ofNat 0), .int .u8 (.ofNat 0), .int .u8 (.ofNat 0), .int .u8 (.ofNat 0), .int .u8 (.ofNat 0), .int .u8 (.ofNat 0), .int .u8 (.ofNat 0), .int .u8 (.ofNat 0), .int .u8 (.ofNat 0), .int .u8 (.ofNat 0), .int .u8 (.ofNat 0), .int .u8 (.ofNat 0), .int .u8 (.ofNat 0), .int .u8 (.ofNat 0), .int .u8 (.ofNat 0), .int .u8 (.ofNat 0), .int .u8 (.ofNat 0), .int .u8 (.ofNat 0), .int .u8 (.ofNat 0), .int .u8 (.ofNat 0), .int .u8 (.ofNat 0), .int .u8 (.ofNat 0), .int .u8 (.ofNat 0), .int .u8 (.ofNat 0), .int .u8 (.ofNat 0), .int .u8 (.ofNat 0), .int .u8 (.ofNat 0), .int .u8 (.ofNat 0), .int .u8 (.ofNat 0), .int .u8 (.ofNat 0), .int .u8 (.ofNat 0), .int .u8 (.ofNat 0), .int .u8 (.ofNat 0), .int .u8 (.ofNat 0), .int .u8 (.ofNat 0), .int .u8 (.ofNat 0), .int .u8 (.ofNat 0), .int .u8 (.ofNat 0), .int .u8 (.ofNat 0), .int .u8 (.ofNat 0), .int .u8 (.ofNat 0), .int .u8 (.ofNat 0), .int .u8 (.ofNat 0), .int .u8 (.ofNat 0), .int .u8 (.ofNat 0), .int .u8 (.ofNat 0), .int .u8 (.ofNat 0), .int .u8 (.ofNat 0), .int .u8 (.ofNat 0), .int .u8 (.ofNat 0), .int .u8 (.ofNat 0), .int .u8 (.ofNat 0), .int .u8 (.ofNat 0), .int .u8 (.ofNat 0), .int .u8 (.ofNat 0), .int .u8 (.ofNat 0), .int .u8 (.ofNat 0), .int .u8 (.ofNat 0), .int .u8 (.ofNat 0)]
def glob5 : List CV := [.int .u64 (.ofNat 1), .int .u64 (.ofNat 10), .int .u64 (.ofNat 100), .int .u64 (.ofNat 1000), .int .u64 (.ofNat 10000), .int .u64 (.ofNat 100000), .int .u64 (.ofNat 1000000), .int .u64 (.ofNat 10000000), .int .u64 (.ofNat 100000000), .int .u64 (.ofNat 1000000000), .int .u64 (.ofNat 10000000000), .int .u64 (.ofNat 100000000000), .int .u64 (.ofNat 1000000000000), .int .u64 (.ofNat 10000000000000), .int .u64 (.ofNat 100000000000000), .int .u64 (.ofNat 1000000000000000), .int .u64 (.ofNat 10000000000000000), .int .u64 (.ofNat 100000000000000000), .int .u64 (.ofNat 1000000000000000000), .int .u64 (.ofNat 10000000000000000000)]
def globs (g : Nat) : Option (List CV) := match g with | 0 => some glob0 | 5 => some glob5 | _ => none
def liesL : List (Nat × Nat × Nat × Nat) := [(101, 4, 0, 99)]
noncomputable def prg : Prg := { fn := fnT tbl, glob := globs, lies := liesT liesL }
end Go.Proofs.YtmckcikeefggdabGreatDoor
namespace Go.Proofs.YtmckcikeefggdabGreatDoor
open Go.Pi
set_option maxRecDepth 100000
def codeOf (fu : Func) : Code := match fu.body with | some c => c | none => .skip
theorem ok3 : FnOk Tryz.prog 3 f3 := ⟨⟨Tryz.f3, codeOf Tryz.f3, Tryz.func3, by kernel_rfl, by kernel_rfl, by kernel_rfl, by kernel_rfl, of_decide_eq_true (by kernel_rfl)⟩⟩
theorem ok4 : FnOk Tryz.prog 4 f4 := ⟨⟨Tryz.f4, codeOf Tryz.f4, Tryz.func4, by kernel_rfl, by kernel_rfl, by kernel_rfl, by kernel_rfl, of_decide_eq_true (by kernel_rfl)⟩⟩
theorem ok5 : FnOk Tryz.prog 5 f5 := ⟨⟨Tryz.f5, codeOf Tryz.f5, Tryz.func5, by kernel_rfl, by kernel_rfl, by kernel_rfl, by kernel_rfl, of_decide_eq_true (by kernel_rfl)⟩⟩
theorem ok6 : FnOk Tryz.prog 6 f6 := ⟨⟨Tryz.f6, codeOf Tryz.f6, Tryz.func6, by kernel_rfl, by kernel_rfl, by kernel_rfl, by kernel_rfl, of_decide_eq_true (by kernel_rfl)⟩⟩
theorem ok7 : FnOk Tryz.prog 7 f7 := ⟨⟨Tryz.f7, codeOf Tryz.f7, Tryz.func7, by kernel_rfl, by kernel_rfl, by kernel_rfl, by kernel_rfl, of_decide_eq_true (by kernel_rfl)⟩⟩
theorem ok8 : FnOk Tryz.prog 8 f8 := ⟨⟨Tryz.f8, codeOf Tryz.f8, Tryz.func8, by kernel_rfl, by kernel_rfl, by kernel_rfl, by kernel_rfl, of_decide_eq_true (by kernel_rfl)⟩⟩
theorem ok9 : FnOk Tryz.prog 9 f9 := ⟨⟨Tryz.f9, codeOf Tryz.f9, Tryz.func9, by kernel_rfl, by kernel_rfl, by kernel_rfl, by kernel_rfl, of_decide_eq_true (by kernel_rfl)⟩⟩
theorem ok10 : FnOk Tryz.prog 10 f10 := ⟨⟨Tryz.f10, codeOf Tryz.f10, Tryz.func10, by kernel_rfl, by kernel_rfl, by kernel_rfl, by kernel_rfl, of_decide_eq_true (by kernel_rfl)⟩⟩
theorem ok11 : FnOk Tryz.prog 11 f11 := ⟨⟨Tryz.f11, codeOf Tryz.f11, Tryz.func11, by kernel_rfl, by kernel_rfl, by kernel_rfl, by kernel_rfl, of_decide_eq_true (by kernel_rfl)⟩⟩
theorem ok12 : FnOk Tryz.prog 12 f12 := ⟨⟨Tryz.f12, codeOf Tryz.f12, Tryz.func12, by kernel_rfl, by kernel_rfl, by kernel_rfl, by kernel_rfl, of_decide_eq_true (by kernel_rfl)⟩⟩
theorem ok13 : FnOk Tryz.prog 13 f13 := ⟨⟨Tryz.f13, codeOf Tryz.f13, Tryz.func13, by kernel_rfl, by kernel_rfl, by kernel_rfl, by kernel_rfl, of_decide_eq_true (by kernel_rfl)⟩⟩
theorem ok14 : FnOk Tryz.prog 14 f14 := ⟨⟨Tryz.f14, codeOf Tryz.f14, Tryz.func14, by kernel_rfl, by kernel_rfl, by kernel_rfl, by kernel_rfl, of_decide_eq_true (by kernel_rfl)⟩⟩
theorem ok15 : FnOk Tryz.prog 15 f15 := ⟨⟨Tryz.f15, codeOf Tryz.f15, Tryz.func15, by kernel_rfl, by kernel_rfl, by kernel_rfl, by kernel_rfl, of_decide_eq_true (by kernel_rfl)⟩⟩
theorem ok16 : FnOk Tryz.prog 16 f16 := ⟨⟨Tryz.f16, codeOf Tryz.f16, Tryz.func16, by kernel_rfl, by kernel_rfl, by kernel_rfl, by kernel_rfl, of_decide_eq_true (by kernel_rfl)⟩⟩
theorem ok17 : FnOk Tryz.prog 17 f17 := ⟨⟨Tryz.f17, codeOf Tryz.f17, Tryz.func17, by kernel_rfl, by kernel_rfl, by kernel_rfl, by kernel_rfl, of_decide_eq_true (by kernel_rfl)⟩⟩
theorem ok18 : FnOk Tryz.prog 18 f18 := ⟨⟨Tryz.f18, codeOf Tryz.f18, Tryz.func18, by kernel_rfl, by kernel_rfl, by kernel_rfl, by kernel_rfl, of_decide_eq_true (by kernel_rfl)⟩⟩
theorem ok19 : FnOk Tryz.prog 19 f19 := ⟨⟨Tryz.f19, codeOf Tryz.f19, Tryz.func19, by kernel_rfl, by kernel_rfl, by kernel_rfl, by kernel_rfl, of_decide_eq_true (by kernel_rfl)⟩⟩
theorem ok20 : FnOk Tryz.prog 20 f20 := ⟨⟨Tryz.f20, codeOf Tryz.f20, Tryz.func20, by kernel_rfl, by kernel_rfl, by kernel_rfl, by kernel_rfl, of_decide_eq_true (by kernel_rfl)⟩⟩
theorem ok21 : FnOk Tryz.prog 21 f21 := ⟨⟨Tryz.f21, codeOf Tryz.f21, Tryz.func21, by kernel_rfl, by kernel_rfl, by kernel_rfl, by kernel_rfl, of_decide_eq_true (by kernel_rfl)⟩⟩
theorem ok22 : FnOk Tryz.prog 22 f22 := ⟨⟨Tryz.f22, codeOf Tryz.f22, Tryz.func22, by kernel_rfl, by kernel_rfl, by kernel_rfl, by kernel_rfl, of_decide_eq_true (by kernel_rfl)⟩⟩
theorem ok23 : FnOk Tryz.prog 23 f23 := ⟨⟨Tryz.f23, codeOf Tryz.f23, Tryz.func23, by kernel_rfl, by kernel_rfl, by kernel_rfl, by kernel_rfl, of_decide_eq_true (by kernel_rfl)⟩⟩
theorem ok24 : FnOk Tryz.prog 24 f24 := ⟨⟨Tryz.f24, codeOf Tryz.f24, Tryz.func24, by kernel_rfl, by kernel_rfl, by kernel_rfl, by kernel_rfl, of_decide_eq_true (by kernel_rfl)⟩⟩
theorem ok25 : FnOk Tryz.prog 25 f25 := ⟨⟨Tryz.f25, codeOf Tryz.f25, Tryz.func25, by kernel_rfl, by kernel_rfl, by kernel_rfl, by kernel_rfl, of_decide_eq_true (by kernel_rfl)⟩⟩
theorem ok26 : FnOk Tryz.prog 26 f26 := ⟨⟨Tryz.f26, codeOf Tryz.f26, Tryz.func26, by kernel_rfl, by kernel_rfl, by kernel_rfl, by kernel_rfl, of_decide_eq_true (by kernel_rfl)⟩⟩
theorem ok27 : FnOk Tryz.prog 27 f27 := ⟨⟨Tryz.f27, codeOf Tryz.f27, Tryz.func27, by kernel_rfl, by kernel_rfl, by kernel_rfl, by kernel_rfl, of_decide_eq_true (by kernel_rfl)⟩⟩
theorem ok28 : FnOk Tryz.prog 28 f28 := ⟨⟨Tryz.f28, codeOf Tryz.f28, Tryz.func28, by kernel_rfl, by kernel_rfl, by kernel_rfl, by kernel_rfl, of_decide_eq_true (by kernel_rfl)⟩⟩
theorem ok29 : FnOk Tryz.prog 29 f29 := ⟨⟨Tryz.f29, codeOf Tryz.f29, Tryz.func29, by kernel_rfl, by kernel_rfl, by kernel_rfl, by kernel_rfl, of_decide_eq_true (by kernel_rfl)⟩⟩
theorem ok30 : FnOk Tryz.prog 30 f30 := ⟨⟨Tryz.f30, codeOf Tryz.f30, Tryz.func30, by kernel_rfl, by kernel_rfl, by kernel_rfl, by kernel_rfl, of_decide_eq_true (by kernel_rfl)⟩⟩
theorem ok31 : FnOk Tryz.prog 31 f31 := ⟨⟨Tryz.f31, codeOf Tryz.f31, Tryz.func31, by kernel_rfl, by kernel_rfl, by kernel_rfl, by kernel_rfl, of_decide_eq_true (by kernel_rfl)⟩⟩
theorem ok32 : FnOk Tryz.prog 32 f32 := ⟨⟨Tryz.f32, codeOf Tryz.f32, Tryz.func32, by kernel_rfl, by kernel_rfl, by kernel_rfl, by kernel_rfl, of_decide_eq_true (by kernel_rfl)⟩⟩
theorem ok33 : FnOk Tryz.prog 33 f33 := ⟨⟨Tryz.f33, codeOf Tryz.f33, Tryz.func33, by kernel_rfl, by kernel_rfl, by kernel_rfl, by kernel_rfl, of_decide_eq_true (by kernel_rfl)⟩⟩
theorem ok34 : FnOk Tryz.prog 34 f34 := ⟨⟨Tryz.f34, codeOf Tryz.f34, Tryz.func34, by kernel_rfl, by kernel_rfl, by kernel_rfl, by kernel_rfl, of_decide_eq_true (by kernel_rfl)⟩⟩
theorem ok35 : FnOk Tryz.prog 35 f35 := ⟨⟨Tryz.f35, codeOf Tryz.f35, Tryz.func35, by kernel_rfl, by kernel_rfl, by kernel_rfl, by kernel_rfl, of_decide_eq_true (by kernel_rfl)⟩⟩
theorem ok36 : FnOk Tryz.prog 36 f36 := ⟨⟨Tryz.f36, codeOf Tryz.f36, Tryz.func36, by kernel_rfl, by kernel_rfl, by kernel_rfl, by kernel_rfl, of_decide_eq_true (by kernel_rfl)⟩⟩
theorem ok37 : FnOk Tryz.prog 37 f37 := ⟨⟨Tryz.f37, codeOf Tryz.f37, Tryz.func37, by kernel_rfl, by kernel_rfl, by kernel_rfl, by kernel_rfl, of_decide_eq_true (by kernel_rfl)⟩⟩
theorem ok38 : FnOk Tryz.prog 38 f38 := ⟨⟨Tryz.f38, codeOf Tryz.f38, Tryz.func38, by kernel_rfl, by kernel_rfl, by kernel_rfl, by kernel_rfl, of_decide_eq_true (by kernel_rfl)⟩⟩
theorem ok39 : FnOk Tryz.prog 39 f39 := ⟨⟨Tryz.f39, codeOf Tryz.f39, Tryz.func39, by kernel_rfl, by kernel_rfl, by kernel_rfl, by kernel_rfl, of_decide_eq_true (by kernel_rfl)⟩⟩
theorem ok40 : FnOk Tryz.prog 40 f40 := ⟨⟨Tryz.f40, codeOf Tryz.f40, Tryz.func40, by kernel_rfl, by kernel_rfl, by kernel_rfl, by kernel_rfl, of_decide_eq_true (by kernel_rfl)⟩⟩
theorem ok41 : FnOk Tryz.prog 41 f41 := ⟨⟨Tryz.f41, codeOf Tryz.f41, Tryz.func41, by kernel_rfl, by kernel_rfl, by kernel_rfl, by kernel_rfl, of_decide_eq_true (by kernel_rfl)⟩⟩
theorem ok42 : FnOk Tryz.prog 42 f42 := ⟨⟨Tryz.f42, codeOf Tryz.f42, Tryz.func42, by kernel_rfl, by kernel_rfl, by kernel_rfl, by kernel_rfl, of_decide_eq_true (by kernel_rfl)⟩⟩
theorem ok43 : FnOk Tryz.prog 43 f43 := ⟨⟨Tryz.f43, codeOf Tryz.f43, Tryz.func43, by kernel_rfl, by kernel_rfl, by kernel_rfl, by kernel_rfl, of_decide_eq_true (by kernel_rfl)⟩⟩
theorem ok44 : FnOk Tryz.prog 44 f44 := ⟨⟨Tryz.f44, codeOf Tryz.f44, Tryz.func44, by kernel_rfl, by kernel_rfl, by kernel_rfl, by kernel_rfl, of_decide_eq_true (by kernel_rfl)⟩⟩
theorem ok45 : FnOk Tryz.prog 45 f45 := ⟨⟨Tryz.f45, codeOf Tryz.f45, Tryz.func45, by kernel_rfl, by kernel_rfl, by kernel_rfl, by kernel_rfl, of_decide_eq_true (by kernel_rfl)⟩⟩
theorem ok46 : FnOk Tryz.prog 46 f46 := ⟨⟨Tryz.f46, codeOf Tryz.f46, Tryz.func46, by kernel_rfl, by kernel_rfl, by kernel_rfl, by kernel_rfl, of_decide_eq_true (by kernel_rfl)⟩⟩
theorem ok47 : FnOk Tryz.prog 47 f47 := ⟨⟨Tryz.f47, codeOf Tryz.f47, Tryz.func47, by kernel_rfl, by kernel_rfl, by kernel_rfl, by kernel_rfl, of_decide_eq_true (by kernel_rfl)⟩⟩
theorem ok48 : FnOk Tryz.prog 48 f48 := ⟨⟨Tryz.f48, codeOf Tryz.f48, Tryz.func48, by kernel_rfl, by kernel_rfl, by kernel_rfl, by kernel_rfl, of_decide_eq_true (by kernel_rfl)⟩⟩
theorem ok49 : FnOk Tryz.prog 49 f49 := ⟨⟨Tryz.f49, codeOf Tryz.f49, Tryz.func49, by kernel_rfl, by kernel_rfl, by kernel_rfl, by kernel_rfl, of_decide_eq_true (by kernel_rfl)⟩⟩
theorem ok50 : FnOk Tryz.prog 50 f50 := ⟨⟨Tryz.f50, codeOf Tryz.f50, Tryz.func50, by kernel_rfl, by kernel_rfl, by kernel_rfl, by kernel_rfl, of_decide_eq_true (by kernel_rfl)⟩⟩
theorem ok51 : FnOk Tryz.prog 51 f51 := ⟨⟨Tryz.f51, codeOf Tryz.f51, Tryz.func51, by kernel_rfl, by kernel_rfl, by kernel_rfl, by kernel_rfl, of_decide_eq_true (by kernel_rfl)⟩⟩
theorem ok52 : FnOk Tryz.prog 52 f52 := ⟨⟨Tryz.f52, codeOf Tryz.f52, Tryz.func52, by kernel_rfl, by kernel_rfl, by kernel_rfl, by kernel_rfl, of_decide_eq_true (by kernel_rfl)⟩⟩
theorem ok53 : FnOk Tryz.prog 53 f53 := ⟨⟨Tryz.f53, codeOf Tryz.f53, Tryz.func53, by kernel_rfl, by kernel_rfl, by kernel_rfl, by kernel_rfl, of_decide_eq_true (by kernel_rfl)⟩⟩
theorem ok54 : FnOk Tryz.prog 54 f54 := ⟨⟨Tryz.f54, codeOf Tryz.f54, Tryz.func54, by kernel_rfl, by kernel_rfl, by kernel_rfl, by kernel_rfl, of_decide_eq_true (by kernel_rfl)⟩⟩
theorem ok55 : FnOk Tryz.prog 55 f55 := ⟨⟨Tryz.f55, codeOf Tryz.f55, Tryz.func55, by kernel_rfl, by kernel_rfl, by kernel_rfl, by kernel_rfl, of_decide_eq_true (by kernel_rfl)⟩⟩
theorem ok56 : FnOk Tryz.prog 56 f56 := ⟨⟨Tryz.f56, codeOf Tryz.f56, Tryz.func56, by kernel_rfl, by kernel_rfl, by kernel_rfl, by kernel_rfl, of_decide_eq_true (by kernel_rfl)⟩⟩
theorem ok57 : FnOk Tryz.prog 57 f57 := ⟨⟨Tryz.f57, codeOf Tryz.f57, Tryz.func57, by kernel_rfl, by kernel_rfl, by kernel_rfl, by kernel_rfl, of_decide_eq_true (by kernel_rfl)⟩⟩
theorem ok58 : FnOk Tryz.prog 58 f58 := ⟨⟨Tryz.f58, codeOf Tryz.f58, Tryz.func58, by kernel_rfl, by kernel_rfl, by kernel_rfl, by kernel_rfl, of_decide_eq_true (by kernel_rfl)⟩⟩
theorem ok59 : FnOk Tryz.prog 59 f59 := ⟨⟨Tryz.f59, codeOf Tryz.f59, Tryz.func59, by kernel_rfl, by kernel_rfl, by kernel_rfl, by kernel_rfl, of_decide_eq_true (by kernel_rfl)⟩⟩
theorem ok60 : FnOk Tryz.prog 60 f60 := ⟨⟨Tryz.f60, codeOf Tryz.f60, Tryz.func60, by kernel_rfl, by kernel_rfl, by kernel_rfl, by kernel_rfl, of_decide_eq_true (by kernel_rfl)⟩⟩
theorem ok61 : FnOk Tryz.prog 61 f61 := ⟨⟨Tryz.f61, codeOf Tryz.f61, Tryz.func61, by kernel_rfl, by kernel_rfl, by kernel_rfl, by kernel_rfl, of_decide_eq_true (by kernel_rfl)⟩⟩
theorem ok62 : FnOk Tryz.prog 62 f62 := ⟨⟨Tryz.f62, codeOf Tryz.f62, Tryz.func62, by kernel_rfl, by kernel_rfl, by kernel_rfl, by kernel_rfl, of_decide_eq_true (by kernel_rfl)⟩⟩
theorem ok63 : FnOk Tryz.prog 63 f63 := ⟨⟨Tryz.f63, codeOf Tryz.f63, Tryz.func63, by kernel_rfl, by kernel_rfl, by kernel_rfl, by kernel_rfl, of_decide_eq_true (by kernel_rfl)⟩⟩
theorem ok64 : FnOk Tryz.prog 64 f64 := ⟨⟨Tryz.f64, codeOf Tryz.f64, Tryz.func64, by kernel_rfl, by kernel_rfl, by kernel_rfl, by kernel_rfl, of_decide_eq_true (by kernel_rfl)⟩⟩
theorem ok65 : FnOk Tryz.prog 65 f65 := ⟨⟨Tryz.f65, codeOf Tryz.f65, Tryz.func65, by kernel_rfl, by kernel_rfl, by kernel_rfl, by kernel_rfl, of_decide_eq_true (by kernel_rfl)⟩⟩
theorem ok66 : FnOk Tryz.prog 66 f66 := ⟨⟨Tryz.f66, codeOf Tryz.f66, Tryz.func66, by kernel_rfl, by kernel_rfl, by kernel_rfl, by kernel_rfl, of_decide_eq_true (by kernel_rfl)⟩⟩
theorem ok67 : FnOk Tryz.prog 67 f67 := ⟨⟨Tryz.f67, codeOf Tryz.f67, Tryz.func67, by kernel_rfl, by kernel_rfl, by kernel_rfl, by kernel_rfl, of_decide_eq_true (by kernel_rfl)⟩⟩
theorem ok68 : FnOk Tryz.prog 68 f68 := ⟨⟨Tryz.f68, codeOf Tryz.f68, Tryz.func68, by kernel_rfl, by kernel_rfl, by kernel_rfl, by kernel_rfl, of_decide_eq_true (by kernel_rfl)⟩⟩
theorem ok69 : FnOk Tryz.prog 69 f69 := ⟨⟨Tryz.f69, codeOf Tryz.f69, Tryz.func69, by kernel_rfl, by kernel_rfl, by kernel_rfl, by kernel_rfl, of_decide_eq_true (by kernel_rfl)⟩⟩
theorem ok70 : FnOk Tryz.prog 70 f70 := ⟨⟨Tryz.f70, codeOf Tryz.f70, Tryz.func70, by kernel_rfl, by kernel_rfl, by kernel_rfl, by kernel_rfl, of_decide_eq_true (by kernel_rfl)⟩⟩
theorem ok71 : FnOk Tryz.prog 71 f71 := ⟨⟨Tryz.f71, codeOf Tryz.f71, Tryz.func71, by kernel_rfl, by kernel_rfl, by kernel_rfl, by kernel_rfl, of_decide_eq_true (by kernel_rfl)⟩⟩
theorem ok72 : FnOk Tryz.prog 72 f72 := ⟨⟨Tryz.f72, codeOf Tryz.f72, Tryz.func72, by kernel_rfl, by kernel_rfl, by kernel_rfl, by kernel_rfl, of_decide_eq_true (by kernel_rfl)⟩⟩
theorem ok73 : FnOk Tryz.prog 73 f73 := ⟨⟨Tryz.f73, codeOf Tryz.f73, Tryz.func73, by kernel_rfl, by kernel_rfl, by kernel_rfl, by kernel_rfl, of_decide_eq_true (by kernel_rfl)⟩⟩
theorem ok74 : FnOk Tryz.prog 74 f74 := ⟨⟨Tryz.f74, codeOf Tryz.f74, Tryz.func74, by kernel_rfl, by kernel_rfl, by kernel_rfl, by kernel_rfl, of_decide_eq_true (by kernel_rfl)⟩⟩
theorem ok75 : FnOk Tryz.prog 75 f75 := ⟨⟨Tryz.f75, codeOf Tryz.f75, Tryz.func75, by kernel_rfl, by kernel_rfl, by kernel_rfl, by kernel_rfl, of_decide_eq_true (by kernel_rfl)⟩⟩
theorem ok76 : FnOk Tryz.prog 76 f76 := ⟨⟨Tryz.f76, codeOf Tryz.f76, Tryz.func76, by kernel_rfl, by kernel_rfl, by kernel_rfl, by kernel_rfl, of_decide_eq_true (by kernel_rfl)⟩⟩
theorem ok77 : FnOk Tryz.prog 77 f77 := ⟨⟨Tryz.f77, codeOf Tryz.f77, Tryz.func77, by kernel_rfl, by kernel_rfl, by kernel_rfl, by kernel_rfl, of_decide_eq_true (by kernel_rfl)⟩⟩
theorem ok78 : FnOk Tryz.prog 78 f78 := ⟨⟨Tryz.f78, codeOf Tryz.f78, Tryz.func78, by kernel_rfl, by kernel_rfl, by kernel_rfl, by kernel_rfl, of_decide_eq_true (by kernel_rfl)⟩⟩
theorem ok79 : FnOk Tryz.prog 79 f79 := ⟨⟨Tryz.f79, codeOf Tryz.f79, Tryz.func79, by kernel_rfl, by kernel_rfl, by kernel_rfl, by kernel_rfl, of_decide_eq_true (by kernel_rfl)⟩⟩
theorem ok80 : FnOk Tryz.prog 80 f80 := ⟨⟨Tryz.f80, codeOf Tryz.f80, Tryz.func80, by kernel_rfl, by kernel_rfl, by kernel_rfl, by kernel_rfl, of_decide_eq_true (by kernel_rfl)⟩⟩
theorem ok81 : FnOk Tryz.prog 81 f81 := ⟨⟨Tryz.f81, codeOf Tryz.f81, Tryz.func81, by kernel_rfl, by kernel_rfl, by kernel_rfl, by kernel_rfl, of_decide_eq_true (by kernel_rfl)⟩⟩
theorem ok82 : FnOk Tryz.prog 82 f82 := ⟨⟨Tryz.f82, codeOf Tryz.f82, Tryz.func82, by kernel_rfl, by kernel_rfl, by kernel_rfl, by kernel_rfl, of_decide_eq_true (by kernel_rfl)⟩⟩
theorem ok83 : FnOk Tryz.prog 83 f83 := ⟨⟨Tryz.f83, codeOf Tryz.f83, Tryz.func83, by kernel_rfl, by kernel_rfl, by kernel_rfl, by kernel_rfl, of_decide_eq_true (by kernel_rfl)⟩⟩
theorem ok84 : FnOk Tryz.prog 84 f84 := ⟨⟨Tryz.f84, codeOf Tryz.f84, Tryz.func84, by kernel_rfl, by kernel_rfl, by kernel_rfl, by kernel_rfl, of_decide_eq_true (by kernel_rfl)⟩⟩
theorem ok85 : FnOk Tryz.prog 85 f85 := ⟨⟨Tryz.f85, codeOf Tryz.f85, Tryz.func85, by kernel_rfl, by kernel_rfl, by kernel_rfl, by kernel_rfl, of_decide_eq_true (by kernel_rfl)⟩⟩
theorem ok86 : FnOk Tryz.prog 86 f86 := ⟨⟨Tryz.f86, codeOf Tryz.f86, Tryz.func86, by kernel_rfl, by kernel_rfl, by kernel_rfl, by kernel_rfl, of_decide_eq_true (by kernel_rfl)⟩⟩
theorem ok87 : FnOk Tryz.prog 87 f87 := ⟨⟨Tryz.f87, codeOf Tryz.f87, Tryz.func87, by kernel_rfl, by kernel_rfl, by kernel_rfl, by kernel_rfl, of_decide_eq_true (by kernel_rfl)⟩⟩
theorem ok88 : FnOk Tryz.prog 88 f88 := ⟨⟨Tryz.f88, codeOf Tryz.f88, Tryz.func88, by kernel_rfl, by kernel_rfl, by kernel_rfl, by kernel_rfl, of_decide_eq_true (by kernel_rfl)⟩⟩
theorem ok89 : FnOk Tryz.prog 89 f89 := ⟨⟨Tryz.f89, codeOf Tryz.f89, Tryz.func89, by kernel_rfl, by kernel_rfl, by kernel_rfl, by kernel_rfl, of_decide_eq_true (by kernel_rfl)⟩⟩
theorem ok90 : FnOk Tryz.prog 90 f90 := ⟨⟨Tryz.f90, codeOf Tryz.f90, Tryz.func90, by kernel_rfl, by kernel_rfl, by kernel_rfl, by kernel_rfl, of_decide_eq_true (by kernel_rfl)⟩⟩
theorem ok91 : FnOk Tryz.prog 91 f91 := ⟨⟨Tryz.f91, codeOf Tryz.f91, Tryz.func91, by kernel_rfl, by kernel_rfl, by kernel_rfl, by kernel_rfl, of_decide_eq_true (by kernel_rfl)⟩⟩
theorem ok93 : FnOk Tryz.prog 93 f93 := ⟨⟨Tryz.f93, codeOf Tryz.f93, Tryz.func93, by kernel_rfl, by kernel_rfl, by kernel_rfl, by kernel_rfl, of_decide_eq_true (by kernel_rfl)⟩⟩
theorem ok94 : FnOk Tryz.prog 94 f94 := ⟨⟨Tryz.f94, codeOf Tryz.f94, Tryz.func94, by kernel_rfl, by kernel_rfl, by kernel_rfl, by kernel_rfl, of_decide_eq_true (by kernel_rfl)⟩⟩
theorem ok95 : FnOk Tryz.prog 95 f95 := ⟨⟨Tryz.f95, codeOf Tryz.f95, Tryz.func95, by kernel_rfl, by kernel_rfl, by kernel_rfl, by kernel_rfl, of_decide_eq_true (by kernel_rfl)⟩⟩
theorem ok96 : FnOk Tryz.prog 96 f96 := ⟨⟨Tryz.f96, codeOf Tryz.f96, Tryz.func96, by kernel_rfl, by kernel_rfl, by kernel_rfl, by kernel_rfl, of_decide_eq_true (by kernel_rfl)⟩⟩
theorem ok97 : FnOk Tryz.prog 97 f97 := ⟨⟨Tryz.f97, codeOf Tryz.f97, Tryz.func97, by kernel_rfl, by kernel_rfl, by kernel_rfl, by kernel_rfl, of_decide_eq_true (by kernel_rfl)⟩⟩
theorem ok98 : FnOk Tryz.prog 98 f98 := ⟨⟨Tryz.f98, codeOf Tryz.f98, Tryz.func98, by kernel_rfl, by kernel_rfl, by kernel_rfl, by kernel_rfl, of_decide_eq_true (by kernel_rfl)⟩⟩
theorem ok99 : FnOk Tryz.prog 99 f99 := ⟨⟨Tryz.f99, codeOf Tryz.f99, Tryz.func99, by kernel_rfl, by kernel_rfl, by kernel_rfl, by kernel_rfl, of_decide_eq_true (by kernel_rfl)⟩⟩
theorem ok100 : FnOk Tryz.prog 100 f100 := ⟨⟨Tryz.f100, codeOf Tryz.f100, Tryz.func100, by kernel_rfl, by kernel_rfl, by kernel_rfl, by kernel_rfl, of_decide_eq_true (by kernel_rfl)⟩⟩
theorem ok101 : FnOk Tryz.prog 101 f101 := ⟨⟨Tryz.f101, codeOf Tryz.f101, Tryz.func101, by kernel_rfl, by kernel_rfl, by kernel_rfl, by kernel_rfl, of_decide_eq_true (by kernel_rfl)⟩⟩
theorem ok102 : FnOk Tryz.prog 102 f102 := ⟨⟨Tryz.f102, codeOf Tryz.f102, Tryz.func102, by kernel_rfl, by kernel_rfl, by kernel_rfl, by kernel_rfl, of_decide_eq_true (by kernel_rfl)⟩⟩
theorem ok103 : FnOk Tryz.prog 103 f103 := ⟨⟨Tryz.f103, codeOf Tryz.f103, Tryz.func103, by kernel_rfl, by kernel_rfl, by kernel_rfl, by kernel_rfl, of_decide_eq_true (by kernel_rfl)⟩⟩
theorem ok104 : FnOk Tryz.prog 104 f104 := ⟨⟨Tryz.f104, codeOf Tryz.f104, Tryz.func104, by kernel_rfl, by kernel_rfl, by kernel_rfl, by kernel_rfl, of_decide_eq_true (by kernel_rfl)⟩⟩
theorem ok105 : FnOk Tryz.prog 105 f105 := ⟨⟨Tryz.f105, codeOf Tryz.f105, Tryz.func105, by kernel_rfl, by kernel_rfl, by kernel_rfl, by kernel_rfl, of_decide_eq_true (by kernel_rfl)⟩⟩
theorem ok106 : FnOk Tryz.prog 106 f106 := ⟨⟨Tryz.f106, codeOf Tryz.f106, Tryz.func106, by kernel_rfl, by kernel_rfl, by kernel_rfl, by kernel_rfl, of_decide_eq_true (by kernel_rfl)⟩⟩
theorem ok107 : FnOk Tryz.prog 107 f107 := ⟨⟨Tryz.f107, codeOf Tryz.f107, Tryz.func107, by kernel_rfl, by kernel_rfl, by kernel_rfl, by kernel_rfl, of_decide_eq_true (by kernel_rfl)⟩⟩
theorem ok108 : FnOk Tryz.prog 108 f108 := ⟨⟨Tryz.f108, codeOf Tryz.f108, Tryz.func108, by kernel_rfl, by kernel_rfl, by kernel_rfl, by kernel_rfl, of_decide_eq_true (by kernel_rfl)⟩⟩
theorem ok109 : FnOk Tryz.prog 109 f109 := ⟨⟨Tryz.f109, codeOf Tryz.f109, Tryz.func109, by kernel_rfl, by kernel_rfl, by kernel_rfl, by kernel_rfl, of_decide_eq_true (by kernel_rfl)⟩⟩
theorem ok110 : FnOk Tryz.prog 110 f110 := ⟨⟨Tryz.f110, codeOf Tryz.f110, Tryz.func110, by kernel_rfl, by kernel_rfl, by kernel_rfl, by kernel_rfl, of_decide_eq_true (by kernel_rfl)⟩⟩
theorem ok111 : FnOk Tryz.prog 111 f111 := ⟨⟨Tryz.f111, codeOf Tryz.f111, Tryz.func111, by kernel_rfl, by kernel_rfl, by kernel_rfl, by kernel_rfl, of_decide_eq_true (by kernel_rfl)⟩⟩
theorem ok112 : FnOk Tryz.prog 112 f112 := ⟨⟨Tryz.f112, codeOf Tryz.f112, Tryz.func112, by kernel_rfl, by kernel_rfl, by kernel_rfl, by kernel_rfl, of_decide_eq_true (by kernel_rfl)⟩⟩
theorem ok113 : FnOk Tryz.prog 113 f113 := ⟨⟨Tryz.f113, codeOf Tryz.f113, Tryz.func113, by kernel_rfl, by kernel_rfl, by kernel_rfl, by kernel_rfl, of_decide_eq_true (by kernel_rfl)⟩⟩
theorem ok114 : FnOk Tryz.prog 114 f114 := ⟨⟨Tryz.f114, codeOf Tryz.f114, Tryz.func114, by kernel_rfl, by kernel_rfl, by kernel_rfl, by kernel_rfl, of_decide_eq_true (by kernel_rfl)⟩⟩
theorem ok115 : FnOk Tryz.prog 115 f115 := ⟨⟨Tryz.f115, codeOf Tryz.f115, Tryz.func115, by kernel_rfl, by kernel_rfl, by kernel_rfl, by kernel_rfl, of_decide_eq_true (by kernel_rfl)⟩⟩
theorem ok116 : FnOk Tryz.prog 116 f116 := ⟨⟨Tryz.f116, codeOf Tryz.f116, Tryz.func116, by kernel_rfl, by kernel_rfl, by kernel_rfl, by kernel_rfl, of_decide_eq_true (by kernel_rfl)⟩⟩
theorem ok117 : FnOk Tryz.prog 117 f117 := ⟨⟨Tryz.f117, codeOf Tryz.f117, Tryz.func117, by kernel_rfl, by kernel_rfl, by kernel_rfl, by kernel_rfl, of_decide_eq_true (by kernel_rfl)⟩⟩
theorem ok118 : FnOk Tryz.prog 118 f118 := ⟨⟨Tryz.f118, codeOf Tryz.f118, Tryz.func118, by kernel_rfl, by kernel_rfl, by kernel_rfl, by kernel_rfl, of_decide_eq_true (by kernel_rfl)⟩⟩
theorem ok120 : FnOk Tryz.prog 120 f120 := ⟨⟨Tryz.f120, codeOf Tryz.f120, Tryz.func120, by kernel_rfl, by kernel_rfl, by kernel_rfl, by kernel_rfl, of_decide_eq_true (by kernel_rfl)⟩⟩
theorem ok121 : FnOk Tryz.prog 121 f121 := ⟨⟨Tryz.f121, codeOf Tryz.f121, Tryz.func121, by kernel_rfl, by kernel_rfl, by kernel_rfl, by kernel_rfl, of_decide_eq_true (by kernel_rfl)⟩⟩
theorem ok122 : FnOk Tryz.prog 122 f122 := ⟨⟨Tryz.f122, codeOf Tryz.f122, Tryz.func122, by kernel_rfl, by kernel_rfl, by kernel_rfl, by kernel_rfl, of_decide_eq_true (by kernel_rfl)⟩⟩
theorem ok123 : FnOk Tryz.prog 123 f123 := ⟨⟨Tryz.f123, codeOf Tryz.f123, Tryz.func123, by kernel_rfl, by kernel_rfl, by kernel_rfl, by kernel_rfl, of_decide_eq_true (by kernel_rfl)⟩⟩
theorem ok124 : FnOk Tryz.prog 124 f124 := ⟨⟨Tryz.f124, codeOf Tryz.f124, Tryz.func124, by kernel_rfl, by kernel_rfl, by kernel_rfl, by kernel_rfl, of_decide_eq_true (by kernel_rfl)⟩⟩
theorem ok125 : FnOk Tryz.prog 125 f125 := ⟨⟨Tryz.f125, codeOf Tryz.f125, Tryz.func125, by kernel_rfl, by kernel_rfl, by kernel_rfl, by kernel_rfl, of_decide_eq_true (by kernel_rfl)⟩⟩
theorem ok126 : FnOk Tryz.prog 126 f126 := ⟨⟨Tryz.f126, codeOf Tryz.f126, Tryz.func126, by kernel_rfl, by kernel_rfl, by kernel_rfl, by kernel_rfl, of_decide_eq_true (by kernel_rfl)⟩⟩
theorem ok127 : FnOk Tryz.prog 127 f127 := ⟨⟨Tryz.f127, codeOf Tryz.f127, Tryz.func127, by kernel_rfl, by kernel_rfl, by kernel_rfl, by kernel_rfl, of_decide_eq_true (by kernel_rfl)⟩⟩
theorem ok128 : FnOk Tryz.prog 128 f128 := ⟨⟨Tryz.f128, codeOf Tryz.f128, Tryz.func128, by kernel_rfl, by kernel_rfl, by kernel_rfl, by kernel_rfl, of_decide_eq_true (by kernel_rfl)⟩⟩
theorem ok129 : FnOk Tryz.prog 129 f129 := ⟨⟨Tryz.f129, codeOf Tryz.f129, Tryz.func129, by kernel_rfl, by kernel_rfl, by kernel_rfl, by kernel_rfl, of_decide_eq_true (by kernel_rfl)⟩⟩
theorem ok130 : FnOk Tryz.prog 130 f130 := ⟨⟨Tryz.f130, codeOf Tryz.f130, Tryz.func130, by kernel_rfl, by kernel_rfl, by kernel_rfl, by kernel_rfl, of_decide_eq_true (by kernel_rfl)⟩⟩
theorem ok131 : FnOk Tryz.prog 131 f131 := ⟨⟨Tryz.f131, codeOf Tryz.f131, Tryz.func131, by kernel_rfl, by kernel_rfl, by kernel_rfl, by kernel_rfl, of_decide_eq_true (by kernel_rfl)⟩⟩
theorem ok132 : FnOk Tryz.prog 132 f132 := ⟨⟨Tryz.f132, codeOf Tryz.f132, Tryz.func132, by kernel_rfl, by kernel_rfl, by kernel_rfl, by kernel_rfl, of_decide_eq_true (by kernel_rfl)⟩⟩
theorem ok133 : FnOk Tryz.prog 133 f133 := ⟨⟨Tryz.f133, codeOf Tryz.f133, Tryz.func133, by kernel_rfl, by kernel_rfl, by kernel_rfl, by kernel_rfl, of_decide_eq_true (by kernel_rfl)⟩⟩
theorem ok134 : FnOk Tryz.prog 134 f134 := ⟨⟨Tryz.f134, codeOf Tryz.f134, Tryz.func134, by kernel_rfl, by kernel_rfl, by kernel_rfl, by kernel_rfl, of_decide_eq_true (by kernel_rfl)⟩⟩
theorem ok136 : FnOk Tryz.prog 136 f136 := ⟨⟨Tryz.f136, codeOf Tryz.f136, Tryz.func136, by kernel_rfl, by kernel_rfl, by kernel_rfl, by kernel_rfl, of_decide_eq_true (by kernel_rfl)⟩⟩
theorem ok138 : FnOk Tryz.prog 138 f138 := ⟨⟨Tryz.f138, codeOf Tryz.f138, Tryz.func138, by kernel_rfl, by kernel_rfl, by kernel_rfl, by kernel_rfl, of_decide_eq_true (by kernel_rfl)⟩⟩
theorem ok139 : FnOk Tryz.prog 139 f139 := ⟨⟨Tryz.f139, codeOf Tryz.f139, Tryz.func139, by kernel_rfl, by kernel_rfl, by kernel_rfl, by kernel_rfl, of_decide_eq_true (by kernel_rfl)⟩⟩
theorem ok140 : FnOk Tryz.prog 140 f140 := ⟨⟨Tryz.f140, codeOf Tryz.f140, Tryz.func140, by kernel_rfl, by kernel_rfl, by kernel_rfl, by kernel_rfl, of_decide_eq_true (by kernel_rfl)⟩⟩
theorem ok146 : FnOk Tryz.prog 146 f146 := ⟨⟨Tryz.f146, codeOf Tryz.f146, Tryz.func146, by kernel_rfl, by kernel_rfl, by kernel_rfl, by kernel_rfl, of_decide_eq_true (by kernel_rfl)⟩⟩
theorem ok147 : FnOk Tryz.prog 147 f147 := ⟨⟨Tryz.f147, codeOf Tryz.f147, Tryz.func147, by kernel_rfl, by kernel_rfl, by kernel_rfl, by kernel_rfl, of_decide_eq_true (by kernel_rfl)⟩⟩
theorem ok148 : FnOk Tryz.prog 148 f148 := ⟨⟨Tryz.f148, codeOf Tryz.f148, Tryz.func148, by kernel_rfl, by kernel_rfl, by kernel_rfl, by kernel_rfl, of_decide_eq_true (by kernel_rfl)⟩⟩
theorem ok149 : FnOk Tryz.prog 149 f149 := ⟨⟨Tryz.f149, codeOf Tryz.f149, Tryz.func149, by kernel_rfl, by kernel_rfl, by kernel_rfl, by kernel_rfl, of_decide_eq_true (by kernel_rfl)⟩⟩
theorem ok150 : FnOk Tryz.prog 150 f150 := ⟨⟨Tryz.f150, codeOf Tryz.f150, Tryz.func150, by kernel_rfl, by kernel_rfl, by kernel_rfl, by kernel_rfl, of_decide_eq_true (by kernel_rfl)⟩⟩
theorem ok151 : FnOk Tryz.prog 151 f151 := ⟨⟨Tryz.f151, codeOf Tryz.f151, Tryz.func151, by kernel_rfl, by kernel_rfl, by kernel_rfl, by kernel_rfl, of_decide_eq_true (by kernel_rfl)⟩⟩
theorem ok152 : FnOk Tryz.prog 152 f152 := ⟨⟨Tryz.f152, codeOf Tryz.f152, Tryz.func152, by kernel_rfl, by kernel_rfl, by kernel_rfl, by kernel_rfl, of_decide_eq_true (by kernel_rfl)⟩⟩
theorem ok153 : FnOk Tryz.prog 153 f153 := ⟨⟨Tryz.f153, codeOf Tryz.f153, Tryz.func153, by kernel_rfl, by kernel_rfl, by kernel_rfl, by kernel_rfl, of_decide_eq_true (by kernel_rfl)⟩⟩
theorem ok155 : FnOk Tryz.prog 155 f155 := ⟨⟨Tryz.f155, codeOf Tryz.f155, Tryz.func155, by kernel_rfl, by kernel_rfl, by kernel_rfl, by kernel_rfl, of_decide_eq_true (by kernel_rfl)⟩⟩
theorem ok156 : FnOk Tryz.prog 156 f156 := ⟨⟨Tryz.f156, codeOf Tryz.f156, Tryz.func156, by kernel_rfl, by kernel_rfl, by kernel_rfl, by kernel_rfl, of_decide_eq_true (by kernel_rfl)⟩⟩
theorem ok160 : FnOk Tryz.prog 160 f160 := ⟨⟨Tryz.f160, codeOf Tryz.f160, Tryz.func160, by kernel_rfl, by kernel_rfl, by kernel_rfl, by kernel_rfl, of_decide_eq_true (by kernel_rfl)⟩⟩
theorem ok161 : FnOk Tryz.prog 161 f161 := ⟨⟨Tryz.f161, codeOf Tryz.f161, Tryz.func161, by kernel_rfl, by kernel_rfl, by kernel_rfl, by kernel_rfl, of_decide_eq_true (by kernel_rfl)⟩⟩
theorem ok162 : FnOk Tryz.prog 162 f162 := ⟨⟨Tryz.f162, codeOf Tryz.f162, Tryz.func162, by kernel_rfl, by kernel_rfl, by kernel_rfl, by kernel_rfl, of_decide_eq_true (by kernel_rfl)⟩⟩
theorem ok163 : FnOk Tryz.prog 163 f163 := ⟨⟨Tryz.f163, codeOf Tryz.f163, Tryz.func163, by kernel_rfl, by kernel_rfl, by kernel_rfl, by kernel_rfl, of_decide_eq_true (by kernel_rfl)⟩⟩
theorem ok164 : FnOk Tryz.prog 164 f164 := ⟨⟨Tryz.f164, codeOf Tryz.f164, Tryz.func164, by kernel_rfl, by kernel_rfl, by kernel_rfl, by kernel_rfl, of_decide_eq_true (by kernel_rfl)⟩⟩
theorem ok165 : FnOk Tryz.prog 165 f165 := ⟨⟨Tryz.f165, codeOf Tryz.f165, Tryz.func165, by kernel_rfl, by kernel_rfl, by kernel_rfl, by kernel_rfl, of_decide_eq_true (by kernel_rfl)⟩⟩
theorem ok166 : FnOk Tryz.prog 166 f166 := ⟨⟨Tryz.f166, codeOf Tryz.f166, Tryz.func166, by kernel_rfl, by kernel_rfl, by kernel_rfl, by kernel_rfl, of_decide_eq_true (by kernel_rfl)⟩⟩
theorem ok169 : FnOk Tryz.prog 169 f169 := ⟨⟨Tryz.f169, codeOf Tryz.f169, Tryz.func169, by kernel_rfl, by kernel_rfl, by kernel_rfl, by kernel_rfl, of_decide_eq_true (by kernel_rfl)⟩⟩
theorem ok170 : FnOk Tryz.prog 170 f170 := ⟨⟨Tryz.f170, codeOf Tryz.f170, Tryz.func170, by kernel_rfl, by kernel_rfl, by kernel_rfl, by kernel_rfl, of_decide_eq_true (by kernel_rfl)⟩⟩
theorem ok171 : FnOk Tryz.prog 171 f171 := ⟨⟨Tryz.f171, codeOf Tryz.f171, Tryz.func171, by kernel_rfl, by kernel_rfl, by kernel_rfl, by kernel_rfl, of_decide_eq_true (by kernel_rfl)⟩⟩
theorem ok172 : FnOk Tryz.prog 172 f172 := ⟨⟨Tryz.f172, codeOf Tryz.f172, Tryz.func172, by kernel_rfl, by kernel_rfl, by kernel_rfl, by kernel_rfl, of_decide_eq_true (by kernel_rfl)⟩⟩
theorem ok173 : FnOk Tryz.prog 173 f173 := ⟨⟨Tryz.f173, codeOf Tryz.f173, Tryz.func173, by kernel_rfl, by kernel_rfl, by kernel_rfl, by kernel_rfl, of_decide_eq_true (by kernel_rfl)⟩⟩
theorem ok174 : FnOk Tryz.prog 174 f174 := ⟨⟨Tryz.f174, codeOf Tryz.f174, Tryz.func174, by kernel_rfl, by kernel_rfl, by kernel_rfl, by kernel_rfl, of_decide_eq_true (by kernel_rfl)⟩⟩
theorem ok175 : FnOk Tryz.prog 175 f175 := ⟨⟨Tryz.f175, codeOf Tryz.f175, Tryz.func175, by kernel_rfl, by kernel_rfl, by kernel_rfl, by kernel_rfl, of_decide_eq_true (by kernel_rfl)⟩⟩
theorem ok176 : FnOk Tryz.prog 176 f176 := ⟨⟨Tryz.f176, codeOf Tryz.f176, Tryz.func176, by kernel_rfl, by kernel_rfl, by kernel_rfl, by kernel_rfl, of_decide_eq_true (by kernel_rfl)⟩⟩
theorem ok177 : FnOk Tryz.prog 177 f177 := ⟨⟨Tryz.f177, codeOf Tryz.f177, Tryz.func177, by kernel_rfl, by kernel_rfl, by kernel_rfl, by kernel_rfl, of_decide_eq_true (by kernel_rfl)⟩⟩
theorem ok178 : FnOk Tryz.prog 178 f178 := ⟨⟨Tryz.f178, codeOf Tryz.f178, Tryz.func178, by kernel_rfl, by kernel_rfl, by kernel_rfl, by kernel_rfl, of_decide_eq_true (by kernel_rfl)⟩⟩
theorem ok179 : FnOk Tryz.prog 179 f179 := ⟨⟨Tryz.f179, codeOf Tryz.f179, Tryz.func179, by kernel_rfl, by kernel_rfl, by kernel_rfl, by kernel_rfl, of_decide_eq_true (by kernel_rfl)⟩⟩
theorem ok180 : FnOk Tryz.prog 180 f180 := ⟨⟨Tryz.f180, codeOf Tryz.f180, Tryz.func180, by kernel_rfl, by kernel_rfl, by kernel_rfl, by kernel_rfl, of_decide_eq_true (by kernel_rfl)⟩⟩
theorem ok181 : FnOk Tryz.prog 181 f181 := ⟨⟨Tryz.f181, codeOf Tryz.f181, Tryz.func181, by kernel_rfl, by kernel_rfl, by kernel_rfl, by kernel_rfl, of_decide_eq_true (by kernel_rfl)⟩⟩
theorem ok182 : FnOk Tryz.prog 182 f182 := ⟨⟨Tryz.f182, codeOf Tryz.f182, Tryz.func182, by kernel_rfl, by kernel_rfl, by kernel_rfl, by kernel_rfl, of_decide_eq_true (by kernel_rfl)⟩⟩
theorem ok183 : FnOk Tryz.prog 183 f183 := ⟨⟨Tryz.f183, codeOf Tryz.f183, Tryz.func183, by kernel_rfl, by kernel_rfl, by kernel_rfl, by kernel_rfl, of_decide_eq_true (by kernel_rfl)⟩⟩
theorem ok184 : FnOk Tryz.prog 184 f184 := ⟨⟨Tryz.f184, codeOf Tryz.f184, Tryz.func184, by kernel_rfl, by kernel_rfl, by kernel_rfl, by kernel_rfl, of_decide_eq_true (by kernel_rfl)⟩⟩
theorem ok185 : FnOk Tryz.prog 185 f185 := ⟨⟨Tryz.f185, codeOf Tryz.f185, Tryz.func185, by kernel_rfl, by kernel_rfl, by kernel_rfl, by kernel_rfl, of_decide_eq_true (by kernel_rfl)⟩⟩
theorem ok186 : FnOk Tryz.prog 186 f186 := ⟨⟨Tryz.f186, codeOf Tryz.f186, Tryz.func186, by kernel_rfl, by kernel_rfl, by kernel_rfl, by kernel_rfl, of_decide_eq_true (by kernel_rfl)⟩⟩
theorem ok187 : FnOk Tryz.prog 187 f187 := ⟨⟨Tryz.f187, codeOf Tryz.f187, Tryz.func187, by kernel_rfl, by kernel_rfl, by kernel_rfl, by kernel_rfl, of_decide_eq_true (by kernel_rfl)⟩⟩
theorem ok188 : FnOk Tryz.prog 188 f188 := ⟨⟨Tryz.f188, codeOf Tryz.f188, Tryz.func188, by kernel_rfl, by kernel_rfl, by kernel_rfl, by kernel_rfl, of_decide_eq_true (by kernel_rfl)⟩⟩
theorem ok189 : FnOk Tryz.prog 189 f189 := ⟨⟨Tryz.f189, codeOf Tryz.f189, Tryz.func189, by kernel_rfl, by kernel_rfl, by kernel_rfl, by kernel_rfl, of_decide_eq_true (by kernel_rfl)⟩⟩
theorem ok190 : FnOk Tryz.prog 190 f190 := ⟨⟨Tryz.f190, codeOf Tryz.f190, Tryz.func190, by kernel_rfl, by kernel_rfl, by kernel_rfl, by kernel_rfl, of_decide_eq_true (by kernel_rfl)⟩⟩
theorem ok191 : FnOk Tryz.prog 191 f191 := ⟨⟨Tryz.f191, codeOf Tryz.f191, Tryz.func191, by kernel_rfl, by kernel_rfl, by kernel_rfl, by kernel_rfl, of_decide_eq_true (by kernel_rfl)⟩⟩
theorem ok192 : FnOk Tryz.prog 192 f192 := ⟨⟨Tryz.f192, codeOf Tryz.f192, Tryz.func192, by kernel_rfl, by kernel_rfl, by kernel_rfl, by kernel_rfl, of_decide_eq_true (by kernel_rfl)⟩⟩
theorem ok193 : FnOk Tryz.prog 193 f193 := ⟨⟨Tryz.f193, codeOf Tryz.f193, Tryz.func193, by kernel_rfl, by kernel_rfl, by kernel_rfl, by kernel_rfl, of_decide_eq_true (by kernel_rfl)⟩⟩
theorem ok194 : FnOk Tryz.prog 194 f194 := ⟨⟨Tryz.f194, codeOf Tryz.f194, Tryz.func194, by kernel_rfl, by kernel_rfl, by kernel_rfl, by kernel_rfl, of_decide_eq_true (by kernel_rfl)⟩⟩
theorem ok195 : FnOk Tryz.prog 195 f195 := ⟨⟨Tryz.f195, codeOf Tryz.f195, Tryz.func195, by kernel_rfl, by kernel_rfl, by kernel_rfl, by kernel_rfl, of_decide_eq_true (by kernel_rfl)⟩⟩
theorem ok196 : FnOk Tryz.prog 196 f196 := ⟨⟨Tryz.f196, codeOf Tryz.f196, Tryz.func196, by kernel_rfl, by kernel_rfl, by kernel_rfl, by kernel_rfl, of_decide_eq_true (by kernel_rfl)⟩⟩
theorem ok197 : FnOk Tryz.prog 197 f197 := ⟨⟨Tryz.f197, codeOf Tryz.f197, Tryz.func197, by kernel_rfl, by kernel_rfl, by kernel_rfl, by kernel_rfl, of_decide_eq_true (by kernel_rfl)⟩⟩
theorem ok198 : FnOk Tryz.prog 198 f198 := ⟨⟨Tryz.f198, codeOf Tryz.f198, Tryz.func198, by kernel_rfl, by kernel_rfl, by kernel_rfl, by kernel_rfl, of_decide_eq_true (by kernel_rfl)⟩⟩
theorem ok199 : FnOk Tryz.prog 199 f199 := ⟨⟨Tryz.f199, codeOf Tryz.f199, Tryz.func199, by kernel_rfl, by kernel_rfl, by kernel_rfl, by kernel_rfl, of_decide_eq_true (by kernel_rfl)⟩⟩
end Go.Proofs.YtmckcikeefggdabGreatDoor
namespace Go.Proofs.YtmckcikeefggdabGreatDoor
open Go.Pi Go.Pi.S
set_option maxRecDepth 100000
theorem ok135 : PrimOk Tryz.prog prg 135 prim135 := primId_ok Tryz.func135 (by kernel_rfl) (by kernel_rfl) (by kernel_rfl) (by kernel_rfl)
theorem ok154 : PrimOk Tryz.prog prg 154 prim154 := primIB_ok Tryz.func154 (by kernel_rfl) (by kernel_rfl) (by kernel_rfl) (by kernel_rfl)
theorem row0 : RowOk Tryz.prog prg 0 tb0 := by
  unfold tb0
  exact (⟨ok3, ⟨ok4, ⟨ok5, ⟨ok6, ⟨ok7, ⟨ok8, ⟨ok9, ⟨ok10, ⟨ok11, ⟨ok12, ⟨ok13, ⟨ok14, ⟨ok15, trivial⟩⟩⟩⟩⟩⟩⟩⟩⟩⟩⟩⟩⟩)
theorem row1 : RowOk Tryz.prog prg 16 tb1 := by
  unfold tb1
  exact (⟨ok16, ⟨ok17, ⟨ok18, ⟨ok19, ⟨ok20, ⟨ok21, ⟨ok22, ⟨ok23, ⟨ok24, ⟨ok25, ⟨ok26, ⟨ok27, ⟨ok28, ⟨ok29, ⟨ok30, ⟨ok31, trivial⟩⟩⟩⟩⟩⟩⟩⟩⟩⟩⟩⟩⟩⟩⟩⟩)
theorem row2 : RowOk Tryz.prog prg 32 tb2 := by
  unfold tb2
  exact (⟨ok32, ⟨ok33, ⟨ok34, ⟨ok35, ⟨ok36, ⟨ok37, ⟨ok38, ⟨ok39, ⟨ok40, ⟨ok41, ⟨ok42, ⟨ok43, ⟨ok44, ⟨ok45, ⟨ok46, ⟨ok47, trivial⟩⟩⟩⟩⟩⟩⟩⟩⟩⟩⟩⟩⟩⟩⟩⟩)
theorem row3 : RowOk Tryz.prog prg 48 tb3 := by
  unfold tb3
  exact (⟨ok48, ⟨ok49, ⟨ok50, ⟨ok51, ⟨ok52, ⟨ok53, ⟨ok54, ⟨ok55, ⟨ok56, ⟨ok57, ⟨ok58, ⟨ok59, ⟨ok60, ⟨ok61, ⟨ok62, ⟨ok63, trivial⟩⟩⟩⟩⟩⟩⟩⟩⟩⟩⟩⟩⟩⟩⟩⟩)
theorem row4 : RowOk Tryz.prog prg 64 tb4 := by
  unfold tb4
  exact (⟨ok64, ⟨ok65, ⟨ok66, ⟨ok67, ⟨ok68, ⟨ok69, ⟨ok70, ⟨ok71, ⟨ok72, ⟨ok73, ⟨ok74, ⟨ok75, ⟨ok76, ⟨ok77, ⟨ok78, ⟨ok79, trivial⟩⟩⟩⟩⟩⟩⟩⟩⟩⟩⟩⟩⟩⟩⟩⟩)
theorem row5 : RowOk Tryz.prog prg 80 tb5 := by
  unfold tb5
  exact (⟨ok80, ⟨ok81, ⟨ok82, ⟨ok83, ⟨ok84, ⟨ok85, ⟨ok86, ⟨ok87, ⟨ok88, ⟨ok89, ⟨ok90, ⟨ok91, ⟨ok93, ⟨ok94, ⟨ok95, trivial⟩⟩⟩⟩⟩⟩⟩⟩⟩⟩⟩⟩⟩⟩⟩)
theorem row6 : RowOk Tryz.prog prg 96 tb6 := by
  unfold tb6
  exact (⟨ok96, ⟨ok97, ⟨ok98, ⟨ok99, ⟨ok100, ⟨ok101, ⟨ok102, ⟨ok103, ⟨ok104, ⟨ok105, ⟨ok106, ⟨ok107, ⟨ok108, ⟨ok109, ⟨ok110, ⟨ok111, trivial⟩⟩⟩⟩⟩⟩⟩⟩⟩⟩⟩⟩⟩⟩⟩⟩)
theorem row7 : RowOk Tryz.prog prg 112 tb7 := by
  unfold tb7
  exact (⟨ok112, ⟨ok113, ⟨ok114, ⟨ok115, ⟨ok116, ⟨ok117, ⟨ok118, ⟨ok120, ⟨ok121, ⟨ok122, ⟨ok123, ⟨ok124, ⟨ok125, ⟨ok126, ⟨ok127, trivial⟩⟩⟩⟩⟩⟩⟩⟩⟩⟩⟩⟩⟩⟩⟩)
theorem row8 : RowOk Tryz.prog prg 128 tb8 := by
  unfold tb8
  exact (⟨ok128, ⟨ok129, ⟨ok130, ⟨ok131, ⟨ok132, ⟨ok133, ⟨ok134, ⟨ok135, ⟨ok136, ⟨ok138, ⟨ok139, ⟨ok140, trivial⟩⟩⟩⟩⟩⟩⟩⟩⟩⟩⟩⟩)
theorem row9 : RowOk Tryz.prog prg 144 tb9 := by
  unfold tb9
  exact (⟨ok146, ⟨ok147, ⟨ok148, ⟨ok149, ⟨ok150, ⟨ok151, ⟨ok152, ⟨ok153, ⟨ok154, ⟨ok155, ⟨ok156, trivial⟩⟩⟩⟩⟩⟩⟩⟩⟩⟩⟩)
theorem row10 : RowOk Tryz.prog prg 160 tb10 := by
  unfold tb10
  exact (⟨ok160, ⟨ok161, ⟨ok162, ⟨ok163, ⟨ok164, ⟨ok165, ⟨ok166, ⟨ok169, ⟨ok170, ⟨ok171, ⟨ok172, ⟨ok173, ⟨ok174, ⟨ok175, trivial⟩⟩⟩⟩⟩⟩⟩⟩⟩⟩⟩⟩⟩⟩)
theorem row11 : RowOk Tryz.prog prg 176 tb11 := by
  unfold tb11
  exact (⟨ok176, ⟨ok177, ⟨ok178, ⟨ok179, ⟨ok180, ⟨ok181, ⟨ok182, ⟨ok183, ⟨ok184, ⟨ok185, ⟨ok186, ⟨ok187, ⟨ok188, ⟨ok189, ⟨ok190, ⟨ok191, trivial⟩⟩⟩⟩⟩⟩⟩⟩⟩⟩⟩⟩⟩⟩⟩⟩)
theorem row12 : RowOk Tryz.prog prg 192 tb12 := by
  unfold tb12
  exact (⟨ok192, ⟨ok193, ⟨ok194, ⟨ok195, ⟨ok196, ⟨ok197, ⟨ok198, ⟨ok199, trivial⟩⟩⟩⟩⟩⟩⟩⟩)
theorem row13 : RowOk Tryz.prog prg 208 tb13 := by
  unfold tb13
  exact (trivial)
theorem row14 : RowOk Tryz.prog prg 224 tb14 := by
  unfold tb14
  exact (trivial)
theorem tblOk : RowsOk Tryz.prog prg 0 tbl := by
  unfold tbl
  exact ⟨row0, ⟨row1, ⟨row2, ⟨row3, ⟨row4, ⟨row5, ⟨row6, ⟨row7, ⟨row8, ⟨row9, ⟨row10, ⟨row11, ⟨row12, ⟨row13, ⟨row14, trivial⟩⟩⟩⟩⟩⟩⟩⟩⟩⟩⟩⟩⟩⟩⟩
theorem prgOk : PrgOk Tryz.prog prg := .of (l := liesL) rfl tblOk rfl (by
  intro q hq
  simp only [liesL, List.mem_cons, List.not_mem_nil, or_false] at hq
  first
    | (subst hq; kernel_rfl)
    | (rcases hq with rfl | rfl <;> kernel_rfl)
    | (rcases hq with rfl | rfl | rfl <;> kernel_rfl))
theorem mixed : Tryz.prog.follows .mixedOrders = true := by kernel_rfl
end Go.Proofs.YtmckcikeefggdabGreatDoor
