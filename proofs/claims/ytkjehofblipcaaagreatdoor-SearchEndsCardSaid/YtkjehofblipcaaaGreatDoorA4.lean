/- The layer, part 4: Co19, Sp19i, Sp19j, Sp3r, Sp3s, Sp3t, Sp3z, Sp3y, Sp13, Sp13b, Sp13c, Sp13d, Sp13e, Sp13f, Sp19k, Sp19l, Sp13g, Sp19m, Sp13m, Sp13n, Sp13o, Sp13s, Sp19n, Sp19o, Sp19r, Sp19q. -/
import Derived.Test.YtkjehofblipcaaaGreatDoorA3
set_option linter.unusedVariables false
set_option linter.unusedSimpArgs false
namespace Go.Proofs.YtkjehofblipcaaaGreatDoor.Ab
open Go
def f118:bf:=⟨105,[.t 8],
(.seq (.ops [
df 4 0 [],
df 5 1 [],
fV 8 false []])
(.seq (.ops [
aR 17 (.call 122 []) [],
aq 9 17 [0,0,0]])
(.seq (.ops [
ck 18 3 4 [],
ck 19 3 5 [],
aq 20 2 [],
aR 21 (.call 121 [.t 18,.t 19,.t 20,.c (.pv (.int .i64 0))]) [0,1,2],
aq 10 21 [3,3,0,1,2,3]])
(.seq (.ops [
ck 22 3 4 [],
ck 23 3 5 [],
aR 24 (.call 182 [.t 22,.t 23]) [0,1],
aq 11 24 [2,2,0,1,2]])
(.seq (.seq (.ops [
aq 25 10 [],
aR 26 (.not (.t 25)) [0],
aq 27 26 [1],
fa 28 27 false 11 [2],
ej 29 27 false (.not (.t 28)) [3,2],
jT 30 27 29 [2,4],
aq 31 30 [5,2],
fa 32 31 false 2 [6],
gD 33 31 false .lss 32 0 [7,6],
jT 34 31 33 [6,8],
aq 35 34 [9,6],
fa 36 35 false 2 [10],
gD 37 35 false .gtr 36 5 [11,10],
jT 38 35 37 [10,12],
aq 39 38 [13,10],
fa 40 39 false 3 [14],
gD 41 39 false .lss 40 0 [15,14],
jT 42 39 41 [14,16],
aq 43 42 [17,14],
fa 44 43 false 3 [18],
gD 45 43 false .gtr 44 100 [19,18],
jT 46 43 45 [18,20]])
(.cond (.t 46)
(.seq (.ops [
aq 47 9 [],
aq 8 47 [0,0]])
.ret)
.skip))
(.seq (.ops [
cR 12 0 []])
(.seq (.seq (.ops [
aq 48 2 [],
cM 49 .gtr 48 0 [0]])
(.cond (.t 49)
(.ops [
bQ 50 2 4 [],
bR 51 1 50 [0],
fT 52 51 [1],
bQ 53 0 4 [],
bR 54 1 53 [3],
fT 55 54 [4],
aq 56 2 [],
cM 57 .sub 56 1 [6],
aR 58 (.call 188 [.t 52,.t 55,.t 57]) [2,5,7],
aq 12 58 [8,8,0,1,2,3,4,5,6,7,8]])
.skip))
(.seq (.seq (.ops [
aq 59 12 [],
cM 60 .gtr 59 5000 [0]])
(.cond (.t 60)
(.seq (.ops [
aq 61 9 [],
aq 8 61 [0,0]])
.ret)
.skip))
(.seq (.ops [
ck 63 3 4 [],
ck 64 3 5 [],
aq 65 2 [],
aq 66 12 [],
aq 67 3 [],
dX 68 .add 66 67 [3,4],
aR 69 (.call 233 [.t 63,.t 64,.t 65,.t 68]) [0,1,2,5],
aq 62 69 [6],
fu 70 62 0 [7],
fu 71 62 1 [7],
aR 13 (.alloc [.pv (.int .i64 0),.bu,.pv (.int .i64 0)]) [],
dk 3 13 70 [10,8,6,0,1,2,3,4,5,6,7,8,10],
aq 14 71 [9,11,0,1,2,3,4,5,6,7,8,9,10,11]])
(.seq (.ops [
ck 73 3 4 [],
ck 74 3 5 [],
aq 75 2 [],
aR 76 (.call 187 [.t 73,.t 74,.t 75,.c (.pv (.int .i64 200))]) [0,1,2],
aq 72 76 [3],
fu 77 72 0 [4],
fu 78 72 1 [4],
aq 15 77 [5,3,0,1,2,3,4,5],
aq 16 78 [6,7,0,1,2,3,4,5,6,7]])
(.seq (.ops [
aq 79 9 [],
aq 80 79 [0],
fa 81 80 true 14 [1],
ej 82 80 true (.bin .eql (some (.iface true)) (.t 81) (.c (.pv .dI))) [2,1],
iZ 83 80 82 [1,3],
aq 84 83 [4,1],
ew 85 84 true 0 13 [5],
ec 86 84 true 1 85 [6,5],
gD 87 84 true .eql 86 1 [7,5],
fa 88 84 true 87 [8,5,5],
ew 89 88 false 0 13 [9],
ec 90 88 false 1 89 [10,9],
gD 91 88 false .eql 90 2 [11,9],
ej 92 84 true (.pick (.t 88) (.c (.pv (.bool true))) (.t 91)) [9,12,5],
iZ 93 84 92 [5,13],
aq 94 93 [14,9],
fa 95 94 true 16 [15],
ej 96 94 true (.not (.t 95)) [16,15],
fa 97 94 true 96 [17,15,15],
fa 98 97 false 15 [18],
ew 99 97 false 0 13 [18],
ec 100 97 false 1 99 [20,18],
gD 101 97 false .eql 100 1 [21,18],
ej 102 97 false (.bin .eql (some .bool) (.t 98) (.t 101)) [19,22,18],
ej 103 94 true (.pick (.t 97) (.c (.pv (.bool true))) (.t 102)) [18,23,15],
iZ 104 94 103 [15,24],
aq 8 104 [25,18,0,1,2,3,4,5,6,7,8,9,10,11,12,13,14,15,16,17,18,19,20,21,22,23,24,25]])
.ret)))))))))))⟩
def f121:bf:=⟨47,[.t 8],
(.seq (.ops [
df 4 0 [],
df 5 1 [],
fV 8 false []])
(.seq (.ops [
ck 10 3 4 [],
aR 11 (.call 153 [.t 10]) [0],
aq 9 11 [1,1,0,1]])
(.seq (.ops [
aq 12 9 [],
aq 13 12 [0],
ew 14 13 true 0 5 [1],
ec 15 13 true 1 14 [2,1],
ej 16 13 true (.len (.t 15)) [3,1],
gD 17 13 true .leq 16 40 [4,1],
iZ 18 13 17 [1,5],
aq 19 18 [6,1],
ew 20 19 true 0 4 [7],
ec 21 19 true 1 20 [8,7],
ej 22 19 true (.len (.t 21)) [9,7],
gD 23 19 true .leq 22 4 [10,7],
iZ 24 19 23 [7,11],
aq 25 24 [12,7],
ew 26 25 true 2 4 [13],
ec 27 25 true 1 26 [14,13],
ej 28 25 true (.len (.t 27)) [15,13],
gD 29 25 true .leq 28 5 [16,13],
iZ 30 25 29 [13,17],
aq 31 30 [18,13],
fa 32 31 true 2 [19],
gD 33 31 true .leq 32 5 [20,19],
fa 34 31 true 33 [21,19,19],
fa 35 34 false 2 [22],
gD 36 34 false .gtr 35 40 [23,22],
ej 37 31 true (.pick (.t 34) (.c (.pv (.bool true))) (.t 36)) [22,24,19],
iZ 38 31 37 [19,25],
aq 39 38 [26,22],
fa 40 39 true 3 [27],
gD 41 39 true .leq 40 3000 [28,27],
fa 42 39 true 41 [29,27,27],
fa 43 42 false 3 [30],
gD 44 42 false .gtr 43 200000 [31,30],
ej 45 39 true (.pick (.t 42) (.c (.pv (.bool true))) (.t 44)) [30,32,27],
iZ 46 39 45 [27,33],
aq 8 46 [34,30,0,1,2,3,4,5,6,7,8,9,10,11,12,13,14,15,16,17,18,19,20,21,22,23,24,25,26,27,28,29,30,31,32,33,34]])
.ret)))⟩
def f122:bf:=⟨65,[.t 0],
(.seq (.ops [
fV 0 false []])
(.seq (.ops [
aR 9 (.build [.pv (.int .i64 0),.pv (.int .i64 0),.pv (.int .u64 0),.pv (.int .u64 0),.pv (.int .u64 0),.pv (.int .u64 0),.pv (.int .u64 0),.pv (.int .u64 0),.pv (.int .u64 0),.pv (.int .u64 0)] [(0,1,(.c (.pv (.int .i64 3)))),(1,1,(.c (.pv (.int .i64 1))))]) [],
aR 10 (.cr 10 1 [.pv (.int .i64 0),.pv (.int .i64 0),.pv (.int .u64 0),.pv (.int .u64 0),.pv (.int .u64 0),.pv (.int .u64 0),.pv (.int .u64 0),.pv (.int .u64 0),.pv (.int .u64 0),.pv (.int .u64 0)] [(0,10,(.t 9))]) [0],
aR 11 (.build [.pv (.int .i64 0),.pv (.bool false),.pv (.int .i64 0),.pv (.int .i64 0),.pv (.int .i64 0)] [(0,1,(.c (.pv (.int .i64 1)))),(4,1,(.c (.pv (.int .i64 1))))]) [],
aR 12 (.cr 5 1 [.pv (.int .i64 0),.pv (.bool false),.pv (.int .i64 0),.pv (.int .i64 0),.pv (.int .i64 0)] [(0,5,(.t 11))]) [2],
aR 13 (.build [.pv (.int .i64 0),.pv (.int .i64 0),.pv (.int .i64 0),.pv (.int .u64 0),.pv (.int .u64 0),.pv (.int .u64 0),.pv (.int .u64 0),.pv (.int .i64 0)] [(0,1,(.c (.pv (.int .i64 1)))),(1,1,(.c (.pv (.int .i64 1))))]) [],
aR 14 (.cr 8 1 [.pv (.int .i64 0),.pv (.int .i64 0),.pv (.int .i64 0),.pv (.int .u64 0),.pv (.int .u64 0),.pv (.int .u64 0),.pv (.int .u64 0),.pv (.int .i64 0)] [(0,8,(.t 13))]) [4],
aR 15 (.build [.bu,.bu,.bu] [(0,1,(.t 10)),(1,1,(.t 12)),(2,1,(.t 14))]) [1,3,5],
aR 1 (.alloc [.bu,.bu,.bu]) [],
dk 3 1 15 [7,6,0,1,2,3,4,5,6,7]])
(.seq (.ops [
aR 16 (.build [.pv (.int .u64 0),.pv (.int .u64 0),.pv (.int .u64 0),.pv (.int .u64 0)] [(0,1,(.c (.pv (.int .u64 1))))]) [],
aR 17 (.build [.pv (.int .i64 0),.pv (.int .u64 0),.pv (.int .u64 0),.pv (.int .u64 0),.pv (.int .u64 0),.pv (.bool false)] [(0,1,(.c (.pv (.int .i64 1)))),(5,1,(.c (.pv (.bool true)))),(1,4,(.t 16))]) [0],
aR 18 (.cr 6 1 [.pv (.int .i64 0),.pv (.int .u64 0),.pv (.int .u64 0),.pv (.int .u64 0),.pv (.int .u64 0),.pv (.bool false)] [(0,6,(.t 17))]) [1],
aR 19 (.build [.bu,.pv (.int .i64 0),.pv (.int .i64 0)] [(0,1,(.t 18))]) [2],
aR 2 (.alloc [.bu,.pv (.int .i64 0),.pv (.int .i64 0)]) [],
dk 3 2 19 [4,3,0,1,2,3,4]])
(.seq (.ops [
ck 21 3 1 [],
aR 22 (.build [.bu,.pv (.int .i64 0),.pv (.int .i64 0)] []) [],
aR 23 (.call 233 [.t 21,.t 22,.c (.pv (.int .i64 0)),.c (.pv (.int .i64 0))]) [0,1],
aq 20 23 [2],
fu 24 20 0 [3],
fu 25 20 1 [3],
aR 3 (.alloc [.pv (.int .i64 0),.bu,.pv (.int .i64 0)]) [],
dk 3 3 24 [6,4,2,0,1,2,3,4,6],
aq 4 25 [5,7,0,1,2,3,4,5,6,7]])
(.seq (.ops [
ck 27 3 1 [],
ck 28 3 2 [],
aR 29 (.call 233 [.t 27,.t 28,.c (.pv (.int .i64 2)),.c (.pv (.int .i64 100))]) [0,1],
aq 26 29 [2],
fu 30 26 0 [3],
fu 31 26 1 [3],
aR 5 (.alloc [.pv (.int .i64 0),.bu,.pv (.int .i64 0)]) [],
dk 3 5 30 [6,4,2,0,1,2,3,4,6],
aq 6 31 [5,7,0,1,2,3,4,5,6,7]])
(.seq (.ops [
ck 33 3 1 [],
ck 34 3 2 [],
aR 35 (.call 233 [.t 33,.t 34,.c (.pv (.int .i64 41)),.c (.pv (.int .i64 100))]) [0,1],
aq 32 35 [2],
fu 36 32 0 [3],
fu 37 32 1 [3],
aR 7 (.alloc [.pv (.int .i64 0),.bu,.pv (.int .i64 0)]) [],
dk 3 7 36 [6,4,2,0,1,2,3,4,6],
aq 8 37 [5,7,0,1,2,3,4,5,6,7]])
(.seq (.ops [
aq 38 4 [],
aR 39 (.bin .eql (some (.iface true)) (.t 38) (.c (.pv .dI))) [0],
aq 40 39 [1],
ew 41 40 true 0 3 [2],
ec 42 40 true 1 41 [3,2],
gD 43 40 true .eql 42 1 [4,2],
iZ 44 40 43 [2,5],
aq 45 44 [6,2],
ew 46 45 true 1 3 [7],
ec 47 45 true 1 46 [8,7],
ej 48 45 true (.len (.t 47)) [9,7],
gD 49 45 true .eql 48 0 [10,7],
iZ 50 45 49 [7,11],
aq 51 50 [12,7],
fa 52 51 true 6 [13],
ej 53 51 true (.bin .eql (some (.iface true)) (.t 52) (.c (.pv .dI))) [14,13],
iZ 54 51 53 [13,15],
aq 55 54 [16,13],
ew 56 55 true 0 5 [17],
ec 57 55 true 1 56 [18,17],
gD 58 55 true .eql 57 2 [19,17],
iZ 59 55 58 [17,20],
aq 60 59 [21,17],
fa 61 60 true 8 [22],
ej 62 60 true (.lr 0 (.c (.pv (.int .i64 3)))) [22],
ej 63 60 true (.bin .eql (some (.iface true)) (.t 61) (.t 62)) [23,24,22],
iZ 64 60 63 [22,25],
aq 0 64 [26,22,0,1,2,3,4,5,6,7,8,9,10,11,12,13,14,15,16,17,18,19,20,21,22,23,24,25,26]])
.ret)))))))⟩
def f182:bf:=⟨15,[.t 4],
(.seq (.ops [
df 2 0 [],
df 3 1 [],
fV 4 false []])
(.seq (.ops [
ck 8 3 2 [],
ck 9 3 3 [],
aR 10 (.call 152 [.t 8,.t 9]) [0,1],
aq 7 10 [2],
fu 11 7 0 [3],
fu 12 7 1 [3],
aq 5 11 [4,2,0,1,2,3,4],
aq 6 12 [5,6,0,1,2,3,4,5,6]])
(.seq (.ops [
aq 13 5 [],
cM 14 .eql 13 0 [0],
aq 4 14 [1,0,1]])
.ret)))⟩
def yi:bx :=
(.seq (.seq (.ops [
aq 22 10 [],
bQ 23 0 5 [],
bR 24 1 23 [1],
fT 25 24 [2],
dX 26 .lss 22 25 [0,3]])
(.cond (.t 26)
.skip
(.exit 0)))
(.seq (.block 1
(.ops [
aq 29 8 [],
bQ 30 0 5 [],
bR 31 1 30 [1],
aq 32 10 [],
fw 33 8 31 32 [2,3],
bQ 34 0 33 [4],
bR 35 1 34 [5],
aR 36 (.call 189 [.t 29,.t 35]) [0,6],
aq 8 36 [7,7,0,1,2,3,4,5,6,7]]))
(.ops [
aq 27 10 [],
cM 28 .add 27 1 [0],
aq 10 28 [1,0,1]])))
def yj:bx :=
(.seq (.seq (.ops [
aq 37 11 [],
bQ 38 0 3 [],
bR 39 1 38 [1],
fT 40 39 [2],
dX 41 .lss 37 40 [0,3]])
(.cond (.t 41)
.skip
(.exit 2)))
(.seq (.block 3
(.ops [
aq 44 9 [],
bQ 45 0 3 [],
bR 46 1 45 [1],
aq 47 11 [],
fw 48 10 46 47 [2,3],
bQ 49 0 48 [4],
bR 50 1 49 [5],
aR 51 (.call 189 [.t 44,.t 50]) [0,6],
aq 9 51 [7,7,0,1,2,3,4,5,6,7]]))
(.ops [
aq 42 11 [],
cM 43 .add 42 1 [0],
aq 11 43 [1,0,1]])))
def yk:bx :=
(.seq (.seq (.ops [
aq 93 16 [],
aq 94 8 [],
fT 95 94 [1],
dX 96 .lss 93 95 [0,2]])
(.cond (.t 96)
.skip
(.exit 10)))
(.seq (.block 11
(.draw [
aq 99 12 [],
aq 100 8 [],
aq 101 14 [],
fw 102 1 100 101 [1,2],
bR 103 1 102 [3],
aq 104 9 [],
aq 105 15 [],
fw 106 1 104 105 [5,6],
bR 107 1 106 [7],
aq 108 8 [],
aq 109 16 [],
fw 110 1 108 109 [9,10],
bR 111 1 110 [11],
aR 112 (.build [.pv (.int .i64 0),.pv (.int .i64 0),.pv (.int .i64 0),.pv (.int .i64 0)] [(0,1,(.c (.pv (.int .i64 4)))),(1,1,(.t 103)),(2,1,(.t 107)),(3,1,(.t 111))]) [4,8,12],
aR 113 (.cr 4 1 [.pv (.int .i64 0),.pv (.int .i64 0),.pv (.int .i64 0),.pv (.int .i64 0)] [(0,4,(.t 112))]) [13],
aR 114 (.append 4 32 (.t 99) (.t 113)) [0,14],
aq 12 114 [15,15,0,1,2,3,4,5,6,7,8,9,10,11,12,13,14,15]]))
(.ops [
aq 97 16 [],
cM 98 .add 97 1 [0],
aq 16 98 [1,0,1]])))
def ux:bx :=
(.seq (.seq (.ops [
aq 72 15 [],
aq 73 9 [],
fT 74 73 [1],
dX 75 .lss 72 74 [0,2]])
(.cond (.t 75)
.skip
(.exit 8)))
(.seq (.block 9
(.seq (.seq (.ops [
aq 78 13 [],
cM 79 .neq 78 4 [0]])
(.cond (.t 79)
(.seq (.draw [
aq 80 12 [],
aq 81 13 [],
aq 82 8 [],
aq 83 14 [],
fw 84 1 82 83 [2,3],
bR 85 1 84 [4],
aq 86 9 [],
aq 87 15 [],
fw 88 1 86 87 [6,7],
bR 89 1 88 [8],
aR 90 (.build [.pv (.int .i64 0),.pv (.int .i64 0),.pv (.int .i64 0),.pv (.int .i64 0)] [(0,1,(.t 81)),(1,1,(.t 85)),(2,1,(.t 89))]) [1,5,9],
aR 91 (.cr 4 1 [.pv (.int .i64 0),.pv (.int .i64 0),.pv (.int .i64 0),.pv (.int .i64 0)] [(0,4,(.t 90))]) [10],
aR 92 (.append 4 32 (.t 80) (.t 91)) [0,11],
aq 12 92 [12,12,0,1,2,3,4,5,6,7,8,9,10,11,12]])
(.exit 9))
.skip))
(.seq (.ops [
cR 16 0 []])
(.block 10
(.loop yk)))))
(.ops [
aq 76 15 [],
cM 77 .add 76 1 [0],
aq 15 77 [1,0,1]])))
def uy:bx :=
(.seq (.seq (.ops [
aq 56 14 [],
aq 57 8 [],
fT 58 57 [1],
dX 59 .lss 56 58 [0,2]])
(.cond (.t 59)
.skip
(.exit 6)))
(.seq (.block 7
(.seq (.seq (.ops [
aq 62 13 [],
cM 63 .eql 62 2 [0]])
(.cond (.t 63)
(.seq (.ops [
aq 64 12 [],
aq 65 8 [],
aq 66 14 [],
fw 67 1 65 66 [1,2],
bR 68 1 67 [3],
aR 69 (.build [.pv (.int .i64 0),.pv (.int .i64 0),.pv (.int .i64 0),.pv (.int .i64 0)] [(0,1,(.c (.pv (.int .i64 2)))),(1,1,(.t 68))]) [4],
aR 70 (.cr 4 1 [.pv (.int .i64 0),.pv (.int .i64 0),.pv (.int .i64 0),.pv (.int .i64 0)] [(0,4,(.t 69))]) [5],
aR 71 (.append 4 32 (.t 64) (.t 70)) [0,6],
aq 12 71 [7,7,0,1,2,3,4,5,6,7]])
(.exit 7))
.skip))
(.seq (.ops [
cR 15 0 []])
(.block 8
(.loop ux)))))
(.ops [
aq 60 14 [],
cM 61 .add 60 1 [0],
aq 14 61 [1,0,1]])))
def yl:bx :=
(.seq (.seq (.ops [
aq 52 13 [],
cM 53 .leq 52 4 [0]])
(.cond (.t 53)
.skip
(.exit 4)))
(.seq (.block 5
(.seq (.ops [
cR 14 0 []])
(.block 6
(.loop uy))))
(.ops [
aq 54 13 [],
cM 55 .add 54 1 [0],
aq 13 55 [1,0,1]])))
def uz:bx :=
(.seq (.seq (.ops [
aq 115 19 [],
aq 116 12 [],
fT 117 116 [1],
dX 118 .lss 115 117 [0,2]])
(.cond (.t 118)
.skip
(.exit 12)))
(.seq (.block 13
(.seq (.draw [
ck 122 3 3 [],
ck 123 3 4 [],
ck 124 3 5 [],
aq 125 12 [],
aq 126 19 [],
fw 127 4 125 126 [3,4],
ck 128 4 127 [5],
aR 129 (.call 181 [.t 122,.t 123,.t 124,.t 128]) [0,1,2,6],
aq 121 129 [7],
fu 130 121 0 [8],
fu 131 121 1 [8],
aR 20 (.alloc [.bu,.pv (.int .i64 0),.pv (.int .i64 0)]) [],
dk 3 20 130 [11,9,7,0,1,2,3,4,5,6,7,8,9,11],
aq 21 131 [10,12,0,1,2,3,4,5,6,7,8,9,10,11,12]])
(.seq (.ops [
aq 132 21 [],
cM 133 .eql 132 0 [0]])
(.cond (.t 133)
(.seq (.ops [
aq 134 17 [],
aq 135 12 [],
aq 136 19 [],
fw 137 4 135 136 [1,2],
ck 138 4 137 [3],
aR 139 (.cr 4 1 [.pv (.int .i64 0),.pv (.int .i64 0),.pv (.int .i64 0),.pv (.int .i64 0)] [(0,4,(.t 138))]) [4],
aR 140 (.append 4 32 (.t 134) (.t 139)) [0,5],
aq 17 140 [6,6,0,1,2,3,4,5,6]])
(.ops [
aq 141 18 [],
ck 142 3 20 [],
aR 143 (.cr 3 1 [.bu,.pv (.int .i64 0),.pv (.int .i64 0)] [(0,3,(.t 142))]) [1],
aR 144 (.append 3 40 (.t 141) (.t 143)) [0,2],
aq 18 144 [3,3,0,1,2,3]]))
.skip))))
(.ops [
aq 119 19 [],
cM 120 .add 119 1 [0],
aq 19 120 [1,0,1]])))
def f185:bf:=⟨147,[.t 6,.t 7],
(.seq (.ops [
df 3 0 [],
df 4 1 [],
df 5 2 [],
aR 6 (.mv (.c .bu)) [],
aR 7 (.mv (.c .bu)) [3]])
(.seq (.ops [
aR 8 (.mv (.c .bu)) []])
(.seq (.ops [
aR 9 (.mv (.c .bu)) []])
(.seq (.seq (.ops [
cR 10 0 []])
(.block 0
(.loop yi)))
(.seq (.seq (.ops [
cR 11 0 []])
(.block 2
(.loop yj)))
(.seq (.ops [
aR 12 (.mv (.c .bu)) []])
(.seq (.seq (.ops [
cR 13 1 []])
(.block 4
(.loop yl)))
(.seq (.ops [
aR 17 (.mv (.c .bu)) []])
(.seq (.ops [
aR 18 (.mv (.c .bu)) []])
(.seq (.seq (.ops [
cR 19 0 []])
(.block 12
(.loop uz)))
(.seq (.ops [
aq 145 17 [],
aq 146 18 [],
aq 6 145 [0,0],
aq 7 146 [1,2,0,1,2]])
.ret)))))))))))⟩
def ym:bx :=
(.seq (.seq (.ops [
aq 11 4 [],
bQ 12 0 1 [],
bR 13 1 12 [1],
fT 14 13 [2],
dX 15 .lss 11 14 [0,3]])
(.cond (.t 15)
.skip
(.exit 0)))
(.seq (.block 1
(.seq (.ops [
bQ 18 0 1 [],
bR 19 1 18 [0],
aq 20 4 [],
fw 21 8 19 20 [1,2],
ck 22 8 21 [3],
aR 5 (.alloc [.pv (.int .i64 0),.pv (.int .i64 0),.pv (.int .i64 0),.pv (.int .u64 0),.pv (.int .u64 0),.pv (.int .u64 0),.pv (.int .u64 0),.pv (.int .i64 0)]) [],
dk 8 5 22 [5,4,0,1,2,3,4,5]])
(.ops [
aq 23 3 [],
bQ 24 0 5 [],
bR 25 1 24 [1],
aR 26 (.conv .u64 (.t 25)) [2],
bQ 27 1 5 [],
bR 28 1 27 [4],
aR 29 (.conv .u64 (.t 28)) [5],
bQ 30 2 5 [],
bR 31 1 30 [7],
aR 32 (.conv .u64 (.t 31)) [8],
bQ 33 3 5 [],
aR 34 (.dA 4 1 (.t 33) (.c (.pv (.int .i64 0)))) [10],
bR 35 1 34 [11],
bQ 36 3 5 [],
aR 37 (.dA 4 1 (.t 36) (.c (.pv (.int .i64 1)))) [13],
bR 38 1 37 [14],
bQ 39 3 5 [],
aR 40 (.dA 4 1 (.t 39) (.c (.pv (.int .i64 2)))) [16],
bR 41 1 40 [17],
bQ 42 3 5 [],
aR 43 (.dA 4 1 (.t 42) (.c (.pv (.int .i64 3)))) [19],
bR 44 1 43 [20],
bQ 45 7 5 [],
bR 46 1 45 [22],
aR 47 (.conv .u64 (.t 46)) [23],
aR 48 (.cr 1 8 [.pv (.int .u64 0),.pv (.int .u64 0),.pv (.int .u64 0),.pv (.int .u64 0),.pv (.int .u64 0),.pv (.int .u64 0),.pv (.int .u64 0),.pv (.int .u64 0)] [(0,1,(.t 26)),(1,1,(.t 29)),(2,1,(.t 32)),(3,1,(.t 35)),(4,1,(.t 38)),(5,1,(.t 41)),(6,1,(.t 44)),(7,1,(.t 47))]) [3,6,9,12,15,18,21,24],
aR 49 (.append 1 8 (.t 23) (.t 48)) [0,25],
aq 3 49 [26,26,0,1,2,3,4,5,6,7,8,9,10,11,12,13,14,15,16,17,18,19,20,21,22,23,24,25,26]])))
(.ops [
aq 16 4 [],
cM 17 .add 16 1 [0],
aq 4 17 [1,0,1]])))
def f186:bf:=⟨62,[.t 2],
(.seq (.ops [
df 1 0 [],
aR 2 (.mv (.c (.pv (.str ⟨#[]⟩)))) []])
(.seq (.ops [
bQ 6 0 1 [],
bR 7 1 6 [0],
fT 8 7 [1],
aR 9 (.conv .u64 (.t 8)) [2],
aR 10 (.cr 1 1 [.pv (.int .u64 0)] [(0,1,(.t 9))]) [3],
aq 3 10 [4,0,1,2,3,4]])
(.seq (.seq (.ops [
cR 4 0 []])
(.block 0
(.loop ym)))
(.seq (.ops [
aq 50 3 [],
bQ 51 1 1 [],
bR 52 1 51 [1],
aR 53 (.conv .u64 (.t 52)) [2],
bQ 54 2 1 [],
bR 55 1 54 [4],
aR 56 (.conv .u64 (.t 55)) [5],
aR 57 (.cr 1 2 [.pv (.int .u64 0),.pv (.int .u64 0)] [(0,1,(.t 53)),(1,1,(.t 56))]) [3,6],
aR 58 (.append 1 8 (.t 50) (.t 57)) [0,7],
aq 3 58 [8,8,0,1,2,3,4,5,6,7,8]])
(.seq (.ops [
aq 59 3 [],
aR 60 (.call 148 [.t 59]) [0],
aR 61 (.G2 (.t 60)) [1],
aq 2 61 [2,1,0,1,2]])
.ret)))))⟩
def yn:bx :=
(.seq (.seq (.ops [
aq 44 16 [],
aq 45 13 [],
fT 46 45 [1],
dX 47 .lss 44 46 [0,2]])
(.cond (.t 47)
.skip
(.exit 2)))
(.seq (.block 3
(.seq (.draw [
ck 50 3 5 [],
aq 51 13 [],
aq 52 16 [],
fw 53 3 51 52 [1,2],
ck 54 3 53 [3],
aR 55 (.call 165 [.t 50,.t 54]) [0,4],
aq 17 55 [5,5,0,1,2,3,4,5]])
(.seq (.ops [
aq 56 17 []])
(.cond (.t 56)
(.seq (.ops [
fV 8 true [],
fV 9 true [0,0]])
.ret)
.skip))))
(.ops [
aq 48 16 [],
cM 49 .add 48 1 [0],
aq 16 49 [1,0,1]])))
def yo:bx :=
(.seq (.seq (.ops [
aq 87 25 [],
aq 88 14 [],
fT 89 88 [1],
dX 90 .lss 87 89 [0,2]])
(.cond (.t 90)
.skip
(.exit 8)))
(.seq (.block 9
(.ops [
aq 93 24 [],
aq 94 93 [0],
fa 95 94 true 14 [1],
fa 96 94 true 25 [1],
zB 97 94 true 1 95 96 [2,3,1],
ec 98 94 true 1 97 [4,1],
fa 99 94 true 23 [1],
ej 100 94 true (.bin .neq (some .str) (.t 98) (.t 99)) [5,6,1],
iZ 101 94 100 [1,7],
aq 24 101 [8,1,0,1,2,3,4,5,6,7,8]]))
(.ops [
aq 91 25 [],
cM 92 .add 91 1 [0],
aq 25 92 [1,0,1]])))
def yp:bx :=
(.seq (.seq (.ops [
aq 76 22 [],
aq 77 21 [],
fT 78 77 [1],
dX 79 .lss 76 78 [0,2]])
(.cond (.t 79)
.skip
(.exit 6)))
(.seq (.block 7
(.seq (.ops [
aq 82 21 [],
aq 83 22 [],
fw 84 3 82 83 [0,1],
ck 85 3 84 [2],
aR 86 (.call 186 [.t 85]) [3],
aq 23 86 [4,4,0,1,2,3,4]])
(.seq (.ops [
fV 24 true []])
(.seq (.seq (.ops [
cR 25 0 []])
(.block 8
(.loop yo)))
(.seq (.seq (.ops [
aq 102 24 []])
(.cond (.t 102)
(.seq (.ops [
aq 103 14 [],
aq 104 23 [],
aR 105 (.cr 1 1 [.pv (.str ⟨#[]⟩)] [(0,1,(.t 104))]) [1],
aR 106 (.append 1 16 (.t 103) (.t 105)) [0,2],
aq 14 106 [3,3,0,1,2,3]])
(.ops [
aq 107 18 [],
aq 108 21 [],
aq 109 22 [],
fw 110 3 108 109 [1,2],
ck 111 3 110 [3],
aR 112 (.cr 3 1 [.bu,.pv (.int .i64 0),.pv (.int .i64 0)] [(0,3,(.t 111))]) [4],
aR 113 (.append 3 40 (.t 107) (.t 112)) [0,5],
aq 18 113 [6,6,0,1,2,3,4,5,6]]))
.skip))
(.seq (.ops [
aq 114 14 [],
fT 115 114 [0],
aq 116 3 [],
dX 117 .gtr 115 116 [1,2]])
(.cond (.t 117)
(.seq (.ops [
fV 8 false [],
fV 9 false [0,0]])
.ret)
.skip)))))))
(.ops [
aq 80 22 [],
cM 81 .add 80 1 [0],
aq 22 81 [1,0,1]])))
def yq:bx :=
(.seq (.seq (.ops [
aq 60 19 [],
aq 61 13 [],
fT 62 61 [1],
dX 63 .lss 60 62 [0,2]])
(.cond (.t 63)
.skip
(.exit 4)))
(.seq (.block 5
(.seq (.draw [
ck 67 3 4 [],
ck 68 3 5 [],
aq 69 13 [],
aq 70 19 [],
fw 71 3 69 70 [2,3],
ck 72 3 71 [4],
aR 73 (.call 185 [.t 67,.t 68,.t 72]) [0,1,5],
aq 66 73 [6],
fu 74 66 0 [7],
fu 75 66 1 [7],
aq 20 74 [8,6,0,1,2,3,4,5,6,7,8],
aq 21 75 [9,10,0,1,2,3,4,5,6,7,8,9,10]])
(.seq (.ops [
cR 22 0 []])
(.block 6
(.loop yp)))))
(.ops [
aq 64 19 [],
cM 65 .add 64 1 [0],
aq 19 65 [1,0,1]])))
def yr:bx :=
(.seq (.block 1
(.seq (.seq (.ops [
cR 16 0 []])
(.block 2
(.loop yn)))
(.seq (.seq (.ops [
aq 57 15 [],
aq 58 2 [],
dX 59 .eql 57 58 [0,1]])
(.cond (.t 59)
(.seq (.ops [
fV 8 false [],
fV 9 true [0,0]])
.ret)
.skip))
(.seq (.ops [
aR 18 (.mv (.c .bu)) []])
(.seq (.seq (.ops [
cR 19 0 []])
(.block 4
(.loop yq)))
(.ops [
aq 118 18 [],
aq 13 118 [0,0]]))))))
(.ops [
aq 42 15 [],
cM 43 .add 42 1 [0],
aq 15 43 [1,0,1]]))
def f187:bf:=⟨119,[.t 8,.t 9],
(.seq (.ops [
df 4 0 [],
df 5 1 [],
fV 8 false [],
fV 9 false [2]])
(.seq (.ops [
ck 26 3 4 [],
aR 27 (.call 164 [.t 26]) [0],
aR 10 (.alloc [.bu,.pv (.int .i64 0),.pv (.int .i64 0)]) [],
dk 3 10 27 [2,1,1,0,1,2]])
(.seq (.ops [
ck 29 3 4 [],
ck 30 3 5 [],
ck 31 3 10 [],
aR 32 (.call 184 [.t 29,.t 30,.t 31]) [0,1,2],
aq 28 32 [3],
fu 33 28 0 [4],
fu 34 28 1 [4],
aq 11 33 [5,3,0,1,2,3,4,5],
aq 12 34 [6,7,0,1,2,3,4,5,6,7]])
(.seq (.seq (.ops [
aq 35 11 [],
cM 36 .neq 35 0 [0]])
(.cond (.t 36)
(.seq (.ops [
fV 8 false [],
fV 9 true [0,0]])
.ret)
.skip))
(.seq (.ops [
ck 37 3 10 [],
aR 38 (.cr 3 1 [.bu,.pv (.int .i64 0),.pv (.int .i64 0)] [(0,3,(.t 37))]) [0],
aq 13 38 [1,0,1]])
(.seq (.ops [
ck 39 3 10 [],
aR 40 (.call 186 [.t 39]) [0],
aR 41 (.cr 1 1 [.pv (.str ⟨#[]⟩)] [(0,1,(.t 40))]) [1],
aq 14 41 [2,1,0,1,2]])
(.seq (.ops [
cR 15 0 []])
(.block 0
(.loop yr)))))))))⟩
def yt:bx :=
(.seq (.seq (.ops [
aq 23 10 [],
aq 24 2 [],
dX 25 .leq 23 24 [0,1]])
(.cond (.t 25)
.skip
(.exit 0)))
(.seq (.block 1
(.seq (.ops [
aq 28 8 [],
aq 29 9 [],
dX 30 .add 28 29 [0,1],
aq 8 30 [2,0,1,2]])
(.seq (.ops [
aq 31 9 [],
aq 32 7 [],
dX 33 .mul 31 32 [0,1],
aq 9 33 [2,0,1,2]])
(.seq (.ops [
aq 34 8 [],
cM 35 .gtr 34 1000000 [0],
aq 36 35 [1],
fa 37 36 false 9 [2],
gD 38 36 false .gtr 37 1000000 [3,2],
jT 39 36 38 [2,4]])
(.cond (.t 39)
(.seq (.ops [
cR 6 1000000 []])
.ret)
.skip)))))
(.ops [
aq 26 10 [],
cM 27 .add 26 1 [0],
aq 10 27 [1,0,1]])))
def f188:bf:=⟨41,[.t 6],
(.seq (.ops [
cR 6 0 []])
(.seq (.ops [
aq 11 0 [],
aR 12 (.bin .mul none (.c (.pv (.int .i64 2))) (.t 11)) [0],
aq 13 1 [],
dX 14 .mul 12 13 [1,2],
aq 15 0 [],
dX 16 .add 14 15 [3,4],
aq 17 0 [],
aq 18 0 [],
dX 19 .mul 17 18 [6,7],
aq 20 1 [],
dX 21 .mul 19 20 [8,9],
dX 22 .add 16 21 [5,10],
aq 7 22 [11,0,1,2,3,4,5,6,7,8,9,10,11]])
(.seq (.ops [
cR 8 0 []])
(.seq (.ops [
cR 9 1 []])
(.seq (.seq (.ops [
cR 10 0 []])
(.block 0
(.loop yt)))
(.seq (.ops [
aq 40 8 [],
aq 6 40 [0,0]])
.ret))))))⟩
def yu:bx :=
(.seq (.seq (.ops [
aq 7 5 [],
aq 8 0 [],
fT 9 8 [1],
dX 10 .lss 7 9 [0,2],
aq 11 10 [3],
fa 12 11 true 0 [4],
fa 13 11 true 5 [4],
zB 14 11 true 1 12 13 [5,6,4],
ec 15 11 true 1 14 [7,4],
fa 16 11 true 1 [4],
ej 17 11 true (.bin .lss none (.t 15) (.t 16)) [8,9,4],
iZ 18 11 17 [4,10]])
(.cond (.t 18)
.skip
(.exit 0)))
(.block 1
(.ops [
aq 19 5 [],
cM 20 .add 19 1 [0],
aq 5 20 [1,0,1]])))
def f189:bf:=⟨48,[.t 4],
(.seq (.ops [
aR 4 (.mv (.c .bu)) []])
(.seq (.ops [
cR 5 0 []])
(.seq (.block 0
(.loop yu))
(.seq (.seq (.ops [
aq 21 5 [],
aq 22 0 [],
fT 23 22 [1],
dX 24 .lss 21 23 [0,2],
aq 25 24 [3],
fa 26 25 true 0 [4],
fa 27 25 true 5 [4],
zB 28 25 true 1 26 27 [5,6,4],
ec 29 25 true 1 28 [7,4],
fa 30 25 true 1 [4],
ej 31 25 true (.bin .eql none (.t 29) (.t 30)) [8,9,4],
iZ 32 25 31 [4,10]])
(.cond (.t 32)
(.seq (.ops [
aq 33 0 [],
aq 4 33 [0,0]])
.ret)
.skip))
(.seq (.ops [
aR 34 (.cr 1 0 [] []) [],
aq 35 0 [],
aq 36 5 [],
aR 37 (.slice 1 (.t 35) none (some (.t 36))) [1,2],
aR 38 (.append 1 8 (.t 34) (.t 37)) [0,3],
aq 6 38 [4,4,0,1,2,3,4]])
(.seq (.ops [
aq 39 6 [],
aq 40 1 [],
aR 41 (.cr 1 1 [.pv (.int .i64 0)] [(0,1,(.t 40))]) [1],
aR 42 (.append 1 8 (.t 39) (.t 41)) [0,2],
aq 6 42 [3,3,0,1,2,3]])
(.seq (.ops [
aq 43 6 [],
aq 44 0 [],
aq 45 5 [],
aR 46 (.slice 1 (.t 44) (some (.t 45)) none) [1,2],
aR 47 (.append 1 8 (.t 43) (.t 46)) [0,3],
aq 4 47 [4,4,0,1,2,3,4]])
.ret)))))))⟩
def zq(s:bc)(x:Spec)(d n:Int):Bool:=H3 s&&(decide (x.b9.length<=40)&&(decide (s.nodes.length<=4)&&(decide (s.pods.length<=5)&&(decide (d<=5\/40<d)&&decide (n<=3000\/200000<n)))))
set_option maxRecDepth 100000 in
set_option maxHeartbeats 16000000 in
theorem CO{T:cK}(R7:Std T 121 f121)(Mi:Std T 153 f153)(s:bc)(x:Spec)(d n:Int):ba T 121 [aF s,bg x,.int .i64 d,.int .i64 n] (.bool (zq s x d n)):=by
 have kf:=JH Mi s;refine gives R7 rfl ?_;unfold zq;simp only[aF,bg]at kf⊢;cases hf:H3 s
 ·rw[hf]at kf;simp only[f121,rL',aa,simprocAttr,kf.call,cA]
 ·rw[hf]at kf;by_cases c1:(x.b9.length:Int)<=40
  ·have Bl:x.b9.length<=40:=by omega
   by_cases c2:(s.nodes.length:Int)<=4
   ·have pW:s.nodes.length<=4:=by omega
    by_cases c3:(s.pods.length:Int)<=5
    ·have Er:s.pods.length<=5:=by omega
     by_cases c4:d<=5
     ·by_cases c5:n<=3000
      ·simp only[f121,rL',aa,simprocAttr,kf.call,c1,Bl,c2,pW,c3,Er,c4,c5,true_or,kA,bq,bB]
      ·by_cases c6:200000<n
       ·simp only[f121,rL',aa,simprocAttr,kf.call,c1,Bl,c2,pW,c3,Er,c4,c5,c6,true_or,or_true,kA,bq,bB]
       ·simp only[f121,rL',aa,simprocAttr,kf.call,c1,Bl,c2,pW,c3,Er,c4,c5,c6,true_or,or_false,kA,pd,bq,bB]
     ·by_cases c7:40<d
      ·by_cases c5:n<=3000
       ·simp only[f121,rL',aa,simprocAttr,kf.call,c1,Bl,c2,pW,c3,Er,c4,c5,c7,true_or,or_true,kA,bq,bB]
       ·by_cases c6:200000<n
        ·simp only[f121,rL',aa,simprocAttr,kf.call,c1,Bl,c2,pW,c3,Er,c4,c5,c6,c7,or_true,kA,bq,bB]
        ·simp only[f121,rL',aa,simprocAttr,kf.call,c1,Bl,c2,pW,c3,Er,c4,c5,c6,c7,or_true,or_false,kA,pd,bq,bB]
      ·simp only[f121,rL',aa,simprocAttr,kf.call,c1,Bl,c2,pW,c3,Er,c4,c7,or_false,kA,pd,bq,bB,cA]
    ·have Er:¬s.pods.length<=5:=by omega
     simp only[f121,rL',aa,simprocAttr,kf.call,c1,Bl,c2,pW,c3,Er,kA,pd,bq,cA]
   ·have pW:¬s.nodes.length<=4:=by omega
    simp only[f121,rL',aa,simprocAttr,kf.call,c1,Bl,c2,pW,kA,pd,bq,cA]
  ·have Bl:¬x.b9.length<=40:=by omega
   simp only[f121,rL',aa,simprocAttr,kf.call,c1,Bl,kA,pd,bq,cA]
section
def jf(n:Int):List Int->Nat
 |[]=>0
 |a::r=>if a<n then jf n r+1 else 0
def rp(n:Int)(l:List Int):List Int:=if l[jf n l]? =some n then l else l.take (jf n l)++[n]++l.drop (jf n l)
theorem DY(n:Int):∀l,jf n l<=l.length
 |[]=>ax _
 |a::r=>by
  have:=DY n r;simp only[jf,ay];split <;>omega
theorem I8(n x:Int)(l:List Int):x∈rp n l↔x∈l\/x=n:=by
 unfold rp;split
 ·rename_i h;have:=dZ h;constructor
  ·exact .inl
  ·rintro(h|rfl)
   ·exact h
   ·exact this
 ·have:x∈l↔x∈l.take (jf n l)\/x∈l.drop (jf n l):=by
   conv=>lhs;rw[<-List.take_append_drop (jf n l) l]
   rw[cq]
  rw[this];simp only[cq,gR];constructor
  ·rintro((h|h)|h)
   ·exact .inl (.inl h)
   ·exact .inr h
   ·exact .inl (.inr h)
  ·rintro((h|h)|h)
   ·exact .inl (.inl h)
   ·exact .inr h
   ·exact .inl (.inr h)
theorem zg(n:Int)(l:List Int):(rp n l).length<=l.length+1:=by
 unfold rp;split
 ·omega
 ·simp only[aG,ib,List.length_drop,ay,bM];omega
section
variable{T:cK}
theorem CG(l:List Int)(n:Int)(hl:l.length<=2^29)(K:Nat)(Q:Exit->St->Prop)
    (bS:∀fr hp nx,look fr 0=.pv (.slice (l.map cD))->look fr 1=.pv (.int .i64 n)->look fr 5=.pv (.int .i64 (K:Nat))->Q (.exit 0) ⟨fr,hp,nx⟩) :
    ∀(rest:List Int) (i:Nat),l.drop i=rest->i<=l.length->i+jf n rest=K->∀(fr:List (Nat×AV)) (hp:Hl) (nx:Nat),look fr 0=.pv (.slice (l.map cD))->look fr 1=.pv (.int .i64 n)->look fr 5=.pv (.int .i64 (i:Nat))->Wp T false (.loop yu) ⟨fr,hp,nx⟩ Q:=by
 intro rest;induction rest with
 |nil =>
  intro i hd hi ho fr hp nx g0 g1 g5;have hlen:=drop_nil hd hi;simp only[jf,fb]at ho;subst ho;rw[az,aY yu.eq_1];simp only[rL',aa,simprocAttr,g0,g1,g5,hlen,aP];refine bS _ _ _ ?_ ?_ ?_
  ·all_goals try simp only[aj,Nat.reduceEqDiff,g0]
  ·all_goals try simp only[aj,Nat.reduceEqDiff,g1]
  ·all_goals try simp only[aj,Nat.reduceEqDiff,g5]
 |cons a r ih =>
  intro i hd hi ho fr hp nx g0 g1 g5;obtain⟨aN,hlt,hw,dh,cW,hb⟩:=drop_cons hd (by omega);simp only[jf]at ho;rw[az,aY yu.eq_1];by_cases c:a<n
  ·rw[aW c]at ho;simp only[rL',aa,simprocAttr,g0,g1,g5,hlt,aN,cD,c,hw];refine ih (i+1) dh cW (by omega) _ _ _ ?_ ?_ ?_
   ·all_goals try simp only[aj,Nat.reduceEqDiff,g0]
   ·all_goals try simp only[aj,Nat.reduceEqDiff,g1]
   ·all_goals try simp only[aj,Nat.reduceEqDiff,]
  ·rw[ar c,fb]at ho;subst ho;simp only[rL',aa,simprocAttr,g0,g1,g5,hlt,aN,cD,c];refine bS _ _ _ ?_ ?_ ?_
   ·all_goals try simp only[aj,Nat.reduceEqDiff,g0,cD]
   ·all_goals try simp only[aj,Nat.reduceEqDiff,g1]
   ·all_goals try simp only[aj,Nat.reduceEqDiff,g5]
theorem pU(l:List Int):cn 1 (l.map cD)=true:=by
 induction l with
 |nil=>rfl
 |cons m r ih=>exact ih
set_option maxRecDepth 100000 in
set_option maxHeartbeats 16000000 in
theorem B5(Aq:Std T 189 f189)(l:List Int)(n:Int)(hl:l.length<=2^28):ba T 189 [.slice (l.map cD),.int .i64 n] (.slice ((rp n l).map cD)):=by
 refine gives Aq rfl ?_;have hle:=DY n l;have z0:((0:Nat):Int)=0:=rfl;have aL:=pU l;have P0:jf n l<=(l.map cD).length:=by rw[al];exact hle
 have Lw:((l.map cD).take (jf n l))=(l.take (jf n l)).map cD:=List.map_take.symm;have Lx:((l.map cD).drop (jf n l)).take (l.length-jf n l)=(l.drop (jf n l)).map cD:=by
  rw[qx (by simp),List.map_drop]
 simp only[f189,rL',aa,simprocAttr];have SW:∀a:PV,cn 1 [[a]]=true:=fun _=>rfl;have Mv:(l.take (jf n l)).length<=2^30:=by rw[ib];omega
 have Qh:(l.take (jf n l)).length+1<=2^30:=by rw[ib];omega
 have Td:(l.take (jf n l)).length+1+(l.drop (jf n l)).length<=2^30:=by rw[ib,List.length_drop];omega
 refine CG l n (by omega) (jf n l) _ (fun fr hp nx g0 g1 g5=>?_) l 0 rfl (aO _) (by omega) _ _ _ ?_ ?_ ?_
 ·have n0:¬nx+1=nx:=by omega
  have n1:¬nx=nx+1:=by omega
  have n2:¬nx+2=nx+1:=by omega
  have n3:¬nx+1+1=nx+1:=by omega
  unfold rp;by_cases hK:jf n l<l.length
  ·obtain⟨v,hv⟩:∃v,l[jf n l]? =some v:=⟨_,nQ hK⟩;have hlt:((jf n l:Nat):Int)<(l.length:Int):=by omega
   by_cases e:v=n
   ·subst e;rw[aW hv];simp only[rL',aa,simprocAttr,g0,g1,g5,hlt,hv,cD]
   ·rw[ar (by rw[hv];simpa using e)];simp only[rL',aa,simprocAttr,g0,g1,g5,hlt,hv,cD,e,bt,chunk,dV,fR,eQ,nX,nd,pU,SW,Lw,Lx,n0,n1,n2,n3,Mv,Qh,Td,ff,ic,bY,lZ,aO,hle,P0,Nat.sub_zero,gL,al,aG,bM,ay,aM,aE];simp only[bh,aX,aC,cD]
  ·have hv:l[jf n l]? =none:=List.getElem?_eq_none (by omega);have hlt:¬((jf n l:Nat):Int)<(l.length:Int):=by omega
   rw[ar (by rw[hv];simp)];simp only[rL',aa,simprocAttr,g0,g1,g5,hlt,bt,chunk,dV,fR,eQ,nX,nd,pU,SW,Lw,Lx,n0,n1,n2,n3,Mv,Qh,Td,ff,ic,bY,lZ,aO,hle,P0,Nat.sub_zero,gL,al,aG,bM,ay,aM,aE];simp only[bh,aX,aC,cD]
 ·all_goals try simp only[aj,Nat.reduceEqDiff,]
 ·all_goals try simp only[aj,Nat.reduceEqDiff,]
 ·all_goals try simp only[aj,Nat.reduceEqDiff,]
  rfl
set_option maxRecDepth 100000 in
set_option maxHeartbeats 16000000 in
theorem Fe(t:State)(hl:t.pods.length<=1000)(ht:∀p∈t.pods,p.wf)(Q:Exit->St->Prop)
    (bS:∀fr hp nx lJ,lJ<nx->1<=lJ->look fr 1=.ptr 0 0 0->look fr 3=.ms lJ->ah hp lJ=.row 1 ((tk t.pods.length::t.pods.flatMap jv).map pG)->ah hp 0=.var [.pv (.slice (t.pods.map aK)),.pv (.int .i64 t.pre),.pv (.int .i64 t.fe)]->Q (.exit 0) ⟨fr,hp,nx⟩) :
    ∀(rest:List dm) (i:Nat) (acc:List Nat),t.pods.drop i=rest->i<=t.pods.length->acc++rest.flatMap jv=tk t.pods.length::t.pods.flatMap jv->acc.length<=8*i+1->∀(fr:List (Nat×AV)) (hp:Hl) (nx lJ:Nat),1<=lJ->lJ<nx ->
     look fr 1=.ptr 0 0 0->look fr 3=.ms lJ->look fr 4=.pv (.int .i64 i) ->
     ah hp lJ=.row 1 (acc.map pG)->ah hp 0=.var [.pv (.slice (t.pods.map aK)),.pv (.int .i64 t.pre),.pv (.int .i64 t.fe)]->Wp T false (.loop ym) ⟨fr,hp,nx⟩ Q:=by
 intro rest;induction rest with
 |nil =>
  intro i acc hd hi ho ha fr hp nx lJ h1 hlt g1 g3 g4 bl b0;have hlen:=drop_nil hd hi;simp only[NN,bG]at ho;subst ho;rw[az,aY ym.eq_1];simp only[rL',aa,simprocAttr,g1,b0,g4,hlen,aP,al];refine bS _ _ _ lJ hlt h1 ?_ ?_ bl b0
  all_goals try simp only[aj,Nat.reduceEqDiff,g1,g3]
 |cons p r ih =>
  intro i acc hd hi ho ha fr hp nx lJ h1 hlt g1 g3 g4 bl b0;obtain⟨aN,MF,hw,dh,cW,hb⟩:=drop_cons hd (by omega);have tx:=ht p (dZ aN);have n0:¬nx=lJ:=by omega
  have n1:¬nx+1=lJ:=by omega
  have n3:¬nx=0:=by omega
  have n4:¬nx+1=0:=by omega
  have n5:¬lJ=0:=by omega
  have n7:¬lJ=nx:=by omega
  have m1:¬lJ=nx+1+1:=by omega
  have m3:¬nx+1+1=0:=by omega
  have OJ:acc.length+8<=2^30:=by omega
  rw[az,aY ym.eq_1];simp only[rL',aa,simprocAttr,g1,g3,g4,b0,MF,aN,aK,bl,chunk,cn,bL,bV,bt,dV,fR,eQ,iP,al,ay,bM,n0,n1,n3,OJ,hw];refine ih (i+1) (acc++jv p) dh cW (by rw[<-ho,eN,gm]) (by rw[aG];simp only[jv,Bi,aX,aC,aI,aE,ay,bM];omega) _ _ _ (nx+1+1) (by omega) (by omega) ?_ ?_ ?_ ?_ ?_
  ·all_goals try simp only[aj,Nat.reduceEqDiff,g1]
  ·all_goals try simp only[aj,Nat.reduceEqDiff,]
  ·all_goals try simp only[aj,Nat.reduceEqDiff,]
  ·simp only[aj,Nat.reduceEqDiff,m1];rw[bh,I3 tx]
  ·simp only[aj,Nat.reduceEqDiff,m3,n3,n4,n5];simp only[b0]
set_option maxRecDepth 100000 in
set_option maxHeartbeats 16000000 in
theorem Kn(Rj:Std T 186 f186)(Mh:Std T 148 f148)(Ha:Std T 150 f150)(hf:T.flat 148=false)(t:State)(hl:t.pods.length<=1000)(ht:∀p∈t.pods,p.wf):ba T 186 [aw t] (.str (fO t)):=by
 refine gives Rj rfl ?_;simp only[f186,rL',aa,simprocAttr,aw,bt,chunk];refine Fe t hl ht _ (fun fr hp nx lJ i1 i2 g1 g3 bl b0=>?_) t.pods 0 [tk t.pods.length] rfl (aO _) rfl (by simp) _ _ _ 1 (ax _) ?_ ?_ ?_ ?_ ?_ ?_
 ·have n0:¬nx=0:=by omega
  have n1:¬nx=lJ:=by omega
  have n2:¬nx+1=lJ:=by omega
  have n3:¬lJ=nx+1:=by omega
  have wQ:∀l:List dm,(l.flatMap jv).length=8*l.length:=fun l=>by
   induction l with
   |nil=>rfl
   |cons p r ih =>
    rw[eN,aG,ih];simp only[jv,Bi,aX,aC,aI,aE,ay,bM];omega
  have wQ:=wQ t.pods;have hc:(t.pods.flatMap jv).length+1+2<=2^30:=by omega
  have k:=KL Ha Mh (rf t) (yY t) (by simp only[rf,ay,aG,wQ,al,bM];omega);have hk:(rf t).map pG=((tk t.pods.length::t.pods.flatMap jv).map pG)++[[.int .u64 (IntKind.u64.wrap t.pre)],[.int .u64 (IntKind.u64.wrap t.fe)]]:=by
   simp only[rf,aX,bh,aC,pG,mQ,aI]
  simp only[wy,nf]at k;rw[hk]at k;simp only[rL',aa,simprocAttr,g1,g3,b0,bl,n0,n1,n2,bt,chunk,cn,bL,bV,dV,fR,eQ,al,ay,bM,hc];refine k.Li hf rfl ?_ ?_
  ·simp only[lf,iB,gi,nR,uI,pE,nm,gZ,iV,mkFun,ah,gT,fp,cg,rL',aa,simprocAttr,fD,sn,qM,n3]
  ·simp only[lf,iB,gi,nR,uI,pE,nm,gZ,iV,mkFun,ah,gT,fp,cg,rL',aa,simprocAttr,fD,sn,qM,n3,dV,pV,fO]
 ·decide
 ·rfl
 ·rfl
 ·rfl
 ·simp only[aj,Nat.reduceEqDiff];rfl
 ·simp only[aj,Nat.reduceEqDiff]
end
end
section
def iH(id:Int):Nat->List fF->Int
 |_,[]=> -1
 |i,p::r=>if p.id=id then i else iH id (i+1) r
theorem qg(id:Int):∀(l:List fF) (i:Nat),(iH id i l<0)↔gw id l=none
 |[],i=>by simp[iH,gw]
 |p::r,i=>by
  by_cases hp:p.id=id
  ·simp[iH,gw,hp] <;>omega
  ·have:=qg id r (i+1);simpa[iH,gw,hp]using this
theorem qh(id:Int):∀(l:List Node) (i:Nat),(iI id i l<0)↔dv id l=none
 |[],i=>by simp[iI,dv]
 |p::r,i=>by
  by_cases hp:p.id=id
  ·simp[iI,dv,hp] <;>omega
  ·have:=qh id r (i+1);simpa[iI,dv,hp]using this
structure zI(T:cK):Prop where
 R9:Std T 151 f151
 qT:Std T 154 f154
 oB:Std T 155 f155
 EW:Std T 159 f159
 Hc:Std T 160 f160
 Ao:Std T 141 f141
section
variable{T:cK}
theorem p9(EW:Std T 159 f159)(n:Int):ba T 159 [.int .i64 n] (.bool (iq n)):=by
 refine gives EW rfl ?_;unfold iq;by_cases h1:0<=n
 ·simp only[f159,rL',aa,simprocAttr,h1,bq]
 ·simp only[f159,rL',aa,simprocAttr,h1,cA]
theorem Cc(Hc:Std T 160 f160)(n last:Int):ba T 160 [.int .i64 n,.int .i64 last] (.int .i64 (Qs n last)):=by
 refine gives Hc rfl ?_;unfold Qs;by_cases h1:n<1
 ·rw[aW (.inl h1)];simp only[f160,rL',aa,simprocAttr,h1]
 ·by_cases h2:2147483647<n
  ·rw[aW (.inr h2)];simp only[f160,rL',aa,simprocAttr,h1,h2]
  ·rw[ar (by omega)];by_cases h3:n=last
   ·rw[aW h3];simp only[f160,rL',aa,simprocAttr,h1,h2,bJ h3]
   ·rw[ar h3];by_cases h4:n<last
    ·rw[aW h4];simp only[f160,rL',aa,simprocAttr,h1,h2,h3,h4]
    ·rw[ar h4];simp only[f160,rL',aa,simprocAttr,h1,h2,h3,h4]
theorem Cx(s:bc)(id:Int)(hl:s.aT.length<=2^30)(Q:Exit->St->Prop)(o:Int)
    (bS:o= -1->∀fr hp nx,Q (.exit 0) ⟨fr,hp,nx⟩) (dK:∀fr hp nx,look fr 4=.pv (.int .i64 o)->Q .ret ⟨fr,hp,nx⟩) :
    ∀(rest:List fF) (i:Nat),s.aT.drop i=rest->i<=s.aT.length->iH id i rest=o->∀(fr:List (Nat×AV)) (hp:Hl) (nx:Nat),look fr 5=.pv (.int .i64 i)->look fr 1=.pv (.int .i64 id)->look fr 2=.ptr 0 0 0 ->
     ah hp 0=.var [.pv (.slice (s.nodes.map bC)),.pv (.slice (s.aT.map bO)),.pv (.slice (s.pods.map aK))]->Wp T false (.loop xX) ⟨fr,hp,nx⟩ Q:=by
 intro rest;induction rest with
 |nil =>
  intro i hd hi ho fr hp nx h5 h1 h2 b0;have hlen:=drop_nil hd hi;rw[az,aY xX.eq_1];simp only[rL',aa,simprocAttr,h5,h1,h2,b0,hlen,aP];exact bS ho.symm _ _ _
 |cons n r ih =>
  intro i hd hi ho fr hp nx h5 h1 h2 b0;obtain⟨aN,hlt,hw,dh,cW,hb⟩:=drop_cons hd hl;simp only[iH]at ho;rw[az,aY xX.eq_1];by_cases hk:n.id=id
  ·rw[aW hk]at ho;simp only[rL',aa,simprocAttr,h5,h1,h2,b0,hlt,aN,bO,hk];exact dK _ _ _ (by simp only[bH,Nat.reduceEqDiff,bz,aJ,<-ho])
  ·rw[ar hk]at ho;simp only[rL',aa,simprocAttr,h5,h1,h2,b0,hlt,aN,bO,hk,hw];refine ih (i+1) dh cW ho _ _ _ ?_ ?_ ?_ b0
   all_goals try simp only[aj,Nat.reduceEqDiff,h1,h2]
theorem AL(qT:Std T 154 f154)(s:bc)(id:Int)(hl:s.aT.length<=2^30):ba T 154 [aF s,.int .i64 id] (.int .i64 (iH id 0 s.aT)):=by
 refine gives qT rfl ?_;simp only[f154,rL',aa,simprocAttr,aF];refine Cx s id hl _ (iH id 0 s.aT) (fun ho fr hp nx=>?_) (fun fr hp nx h4=>?_) s.aT 0 rfl (aO _) rfl _ _ _ rfl rfl rfl rfl
 ·simp only[rL',aa,simprocAttr,ho]
 ·simp only[rL',aa,simprocAttr,h4]
theorem Fz(s:bc)(id:Int)(hl:s.pods.length<=2^30)(Q:Exit->St->Prop)(o:Int)
    (bS:o= -1->∀fr hp nx,Q (.exit 0) ⟨fr,hp,nx⟩) (dK:∀fr hp nx,look fr 4=.pv (.int .i64 o)->Q .ret ⟨fr,hp,nx⟩) :
    ∀(rest:List dm) (i:Nat),s.pods.drop i=rest->i<=s.pods.length->bw id i rest=o->∀(fr:List (Nat×AV)) (hp:Hl) (nx:Nat),look fr 5=.pv (.int .i64 i)->look fr 1=.pv (.int .i64 id)->look fr 2=.ptr 0 0 0 ->
     ah hp 0=.var [.pv (.slice (s.nodes.map bC)),.pv (.slice (s.aT.map bO)),.pv (.slice (s.pods.map aK))]->Wp T false (.loop xZ) ⟨fr,hp,nx⟩ Q:=by
 intro rest;induction rest with
 |nil =>
  intro i hd hi ho fr hp nx h5 h1 h2 b0;have hlen:=drop_nil hd hi;rw[az,aY xZ.eq_1];simp only[rL',aa,simprocAttr,h5,h1,h2,b0,hlen,aP];exact bS ho.symm _ _ _
 |cons n r ih =>
  intro i hd hi ho fr hp nx h5 h1 h2 b0;obtain⟨aN,hlt,hw,dh,cW,hb⟩:=drop_cons hd hl;simp only[bw]at ho;rw[az,aY xZ.eq_1];by_cases hk:n.id=id
  ·rw[aW hk]at ho;simp only[rL',aa,simprocAttr,h5,h1,h2,b0,hlt,aN,aK,hk];exact dK _ _ _ (by simp only[bH,Nat.reduceEqDiff,bz,aJ,<-ho])
  ·rw[ar hk]at ho;simp only[rL',aa,simprocAttr,h5,h1,h2,b0,hlt,aN,aK,hk,hw];refine ih (i+1) dh cW ho _ _ _ ?_ ?_ ?_ b0
   all_goals try simp only[aj,Nat.reduceEqDiff,h1,h2]
theorem KH(Hb:Std T 156 f156)(s:bc)(id:Int)(hl:s.pods.length<=2^30):ba T 156 [aF s,.int .i64 id] (.int .i64 (bw id 0 s.pods)):=by
 refine gives Hb rfl ?_;simp only[f156,rL',aa,simprocAttr,aF];refine Fz s id hl _ (bw id 0 s.pods) (fun ho fr hp nx=>?_) (fun fr hp nx h4=>?_) s.pods 0 rfl (aO _) rfl _ _ _ rfl rfl rfl rfl
 ·simp only[rL',aa,simprocAttr,ho]
 ·simp only[rL',aa,simprocAttr,h4]
theorem sa{n last c:Int}(h:fM n last c=0):n<=2147483647:=by
 have hi:vR n last=0:=by
  unfold fM at h;split at h
  ·exact h
  ·rename_i h0;simpa using h0
 unfold vR at hi;split at hi
 ·omega
 ·split at hi <;>omega
set_option maxRecDepth 100000 in
set_option maxHeartbeats 4000000 in
theorem LS(S:zI T)(s:bc)(hn:s.nodes.length<=2^28)(hl:s.aT.length<=2^28)(Ca:s.pods.length<=2^28)(a0:Int)(G4:0<=a0)(OH:a0<=2^29)(Q:Exit->St->Prop)(gU:Option (Int×Int))
    (bS:gU=none->∀fr hp nx,1<=nx->look fr 1=.ptr 0 0 0->look fr 5=.pv (.int .i64 (a0+(s.nodes.length:Int)))->ah hp 0=.var [.pv (.slice (s.nodes.map bC)),.pv (.slice (s.aT.map bO)),.pv (.slice (s.pods.map aK))]->Q (.exit 0) ⟨fr,hp,nx⟩)
    (dK:∀c a,gU=some (c,a)->∀fr hp nx,look fr 2=.pv (.int .i64 c)->look fr 3=.pv (.int .i64 a)->Q .ret ⟨fr,hp,nx⟩) :
    ∀(rest:List Node) (i:Nat) (last:Int),s.nodes.drop i=rest->i<=s.nodes.length->last<=2147483647->fS Node.id cY last (a0+i) rest=gU->∀(fr:List (Nat×AV)) (hp:Hl) (nx:Nat),1<=nx->look fr 1=.ptr 0 0 0 ->
     ah hp 0=.var [.pv (.slice (s.nodes.map bC)),.pv (.slice (s.aT.map bO)),.pv (.slice (s.pods.map aK))]->look fr 4=.pv (.int .i64 last)->look fr 5=.pv (.int .i64 (a0+i))->look fr 6=.pv (.int .i64 i)->Wp T false (.loop uo) ⟨fr,hp,nx⟩ Q:=by
 intro rest;induction rest with
 |nil =>
  intro i last hd hi sN ho fr hp nx ie g1 b0 g4 g5 gI;have hlen:=drop_nil hd hi;rw[az,aY uo.eq_1];simp only[rL',aa,simprocAttr,g1,b0,gI,hlen,aP];refine bS ho.symm _ _ _ ie ?_ ?_ b0
  all_goals try simp only[aj,Nat.reduceEqDiff,g1,g5]
  rw[hlen]
 |cons x r ih =>
  intro i last hd hi sN ho fr hp nx ie g1 b0 g4 g5 gI;obtain⟨aN,hlt,hw,dh,cW,Bp⟩:=drop_cons hd (by omega);have n0:¬nx=0:=by omega
  have wa:IntKind.i64.wrap (a0+(i:Int)+1)=a0+((i+1:Nat):Int):=by rw[dS] <;>omega
  have ki:=Cc S.Hc x.id last;rw[<-yT sN]at ki;have fin:∀c,fM x.id last (cY x)=c->c≠0->∀fr hp nx,look fr 2=.pv (.int .i64 c)->look fr 3=.pv (.int .i64 (a0+i))->Q .ret ⟨fr,hp,nx⟩:=by
   intro c h1 h2;refine dK c _ ?_;rw[<-ho,fS];unfold jm;rw[h1,aW h2,jN]
  have CE:fM x.id last (cY x)=0->∀fG hp' cC,1<=cC->look fG 1=look fr 1->ah hp' 0=ah hp 0->look fG 4=.pv (.int .i64 x.id)->look fG 5=.pv (.int .i64 (a0+((i+1:Nat):Int)))->look fG 6=.pv (.int .i64 ((i+1:Nat):Int))->Wp T false (.loop uo) ⟨fG,hp',cC⟩ Q:=by
   intro h1 fG hp' cC q1 q2 q3 q4 q5 q6;refine ih (i+1) x.id dh cW (sa h1) ?_ fG hp' cC q1 (q2.trans g1) (q3.trans b0) q4 q5 q6;rw[<-ho,fS];unfold jm;rw[h1,ar (by simp),mB,show a0+((i+1:Nat):Int)=a0+i+1 by omega]
  have kf:=Dz S.Ao x.held x.cap;simp only[cB,cd]at kf;rw[az,aY uo.eq_1];by_cases dT:vR x.id last=0
  ·have vQ:fM x.id last (cY x)=cY x:=by unfold fM;rw[ar (by simpa using dT)]
   rw[dT]at ki;by_cases c1:x.bW<1
   ·have hb:cY x=1:=by unfold cY;rw[ar (by omega)]
    simp only[rL',aa,simprocAttr,g1,b0,g4,g5,gI,hlt,aN,n0,ki.call,bC,kf.call,c1];refine fin _ (vQ.trans hb) (by decide) _ _ _ ?_ ?_
    all_goals try simp only[aj,Nat.reduceEqDiff,g5]
   ·by_cases c2:8<x.bW
    ·have hb:cY x=1:=by unfold cY;rw[ar (by omega)]
     simp only[rL',aa,simprocAttr,g1,b0,g4,g5,gI,hlt,aN,n0,ki.call,bC,kf.call,c1,c2];refine fin _ (vQ.trans hb) (by decide) _ _ _ ?_ ?_
     all_goals try simp only[aj,Nat.reduceEqDiff,g5]
    ·cases hf:pM x.held x.cap
     ·have hb:cY x=1:=by unfold cY;rw[ar (by simp[hf])]
      rw[hf]at kf;simp only[rL',aa,simprocAttr,g1,b0,g4,g5,gI,hlt,aN,n0,ki.call,bC,kf.call,c1,c2];refine fin _ (vQ.trans hb) (by decide) _ _ _ ?_ ?_
      all_goals try simp only[aj,Nat.reduceEqDiff,g5]
     ·have hb:cY x=0:=by unfold cY;rw[aW ⟨by omega,by omega,hf⟩]
      rw[hf]at kf;simp only[rL',aa,simprocAttr,g1,b0,g4,g5,gI,hlt,aN,n0,ki.call,bC,kf.call,c1,c2,wa,hw];refine CE (vQ.trans hb) _ _ _ (by omega) ?_ ?_ ?_ ?_ ?_
      all_goals try simp only[aj,Nat.reduceEqDiff,g1,n0,b0]
  ·have vQ:fM x.id last (cY x)=vR x.id last:=by unfold fM;rw[aW dT]
   simp only[rL',aa,simprocAttr,g1,b0,g4,g5,gI,hlt,aN,n0,ki.call,bC,kf.call,dT];refine fin _ vQ dT _ _ _ ?_ ?_
   all_goals try simp only[aj,Nat.reduceEqDiff,g5]
set_option maxRecDepth 100000 in
set_option maxHeartbeats 4000000 in
theorem LU(S:zI T)(s:bc)(hn:s.nodes.length<=2^28)(hl:s.aT.length<=2^28)(Ca:s.pods.length<=2^28)(a0:Int)(G4:0<=a0)(OH:a0<=2^29)(Q:Exit->St->Prop)(gU:Option (Int×Int))
    (bS:gU=none->∀fr hp nx,1<=nx->look fr 1=.ptr 0 0 0->look fr 5=.pv (.int .i64 (a0+(s.aT.length:Int)))->ah hp 0=.var [.pv (.slice (s.nodes.map bC)),.pv (.slice (s.aT.map bO)),.pv (.slice (s.pods.map aK))]->Q (.exit 2) ⟨fr,hp,nx⟩)
    (dK:∀c a,gU=some (c,a)->∀fr hp nx,look fr 2=.pv (.int .i64 c)->look fr 3=.pv (.int .i64 a)->Q .ret ⟨fr,hp,nx⟩) :
    ∀(rest:List fF) (i:Nat) (last:Int),s.aT.drop i=rest->i<=s.aT.length->last<=2147483647->fS fF.id cX last (a0+i) rest=gU->∀(fr:List (Nat×AV)) (hp:Hl) (nx:Nat),1<=nx->look fr 1=.ptr 0 0 0 ->
     ah hp 0=.var [.pv (.slice (s.nodes.map bC)),.pv (.slice (s.aT.map bO)),.pv (.slice (s.pods.map aK))]->look fr 4=.pv (.int .i64 last)->look fr 5=.pv (.int .i64 (a0+i))->look fr 10=.pv (.int .i64 i)->Wp T false (.loop ur) ⟨fr,hp,nx⟩ Q:=by
 intro rest;induction rest with
 |nil =>
  intro i last hd hi sN ho fr hp nx ie g1 b0 g4 g5 gI;have hlen:=drop_nil hd hi;rw[az,aY ur.eq_1];simp only[rL',aa,simprocAttr,g1,b0,gI,hlen,aP];refine bS ho.symm _ _ _ ie ?_ ?_ b0
  all_goals try simp only[aj,Nat.reduceEqDiff,g1,g5]
  rw[hlen]
 |cons x r ih =>
  intro i last hd hi sN ho fr hp nx ie g1 b0 g4 g5 gI;obtain⟨aN,hlt,hw,dh,cW,Bp⟩:=drop_cons hd (by omega);have n0:¬nx=0:=by omega
  have wa:IntKind.i64.wrap (a0+(i:Int)+1)=a0+((i+1:Nat):Int):=by rw[dS] <;>omega
  have ki:=Cc S.Hc x.id last;rw[<-yT sN]at ki;have fin:∀c,fM x.id last (cX x)=c->c≠0->∀fr hp nx,look fr 2=.pv (.int .i64 c)->look fr 3=.pv (.int .i64 (a0+i))->Q .ret ⟨fr,hp,nx⟩:=by
   intro c h1 h2;refine dK c _ ?_;rw[<-ho,fS];unfold jm;rw[h1,aW h2,jN]
  have CE:fM x.id last (cX x)=0->∀fG hp' cC,1<=cC->look fG 1=look fr 1->ah hp' 0=ah hp 0->look fG 4=.pv (.int .i64 x.id)->look fG 5=.pv (.int .i64 (a0+((i+1:Nat):Int)))->look fG 10=.pv (.int .i64 ((i+1:Nat):Int))->Wp T false (.loop ur) ⟨fG,hp',cC⟩ Q:=by
   intro h1 fG hp' cC q1 q2 q3 q4 q5 q6;refine ih (i+1) x.id dh cW (sa h1) ?_ fG hp' cC q1 (q2.trans g1) (q3.trans b0) q4 q5 q6;rw[<-ho,fS];unfold jm;rw[h1,ar (by simp),mB,show a0+((i+1:Nat):Int)=a0+i+1 by omega]
  have k1:=p9 S.EW x.sq;have k2:=p9 S.EW x.min;have k3:=p9 S.EW x.max;rw[az,aY ur.eq_1];by_cases dT:vR x.id last=0
  ·have vQ:fM x.id last (cX x)=cX x:=by unfold fM;rw[ar (by simpa using dT)]
   rw[dT]at ki;cases c1:iq x.sq
   ·have hb:cX x=1:=by unfold cX;rw[ar (by simp[c1])]
    rw[c1]at k1;simp only[rL',aa,simprocAttr,g1,b0,g4,g5,gI,hlt,aN,n0,ki.call,bO,k1.call,k2.call,k3.call];refine fin _ (vQ.trans hb) (by decide) _ _ _ ?_ ?_
    all_goals try simp only[aj,Nat.reduceEqDiff,g5]
   ·cases c2:iq x.min
    ·have hb:cX x=1:=by unfold cX;rw[ar (by simp[c2])]
     rw[c1]at k1;rw[c2]at k2;simp only[rL',aa,simprocAttr,g1,b0,g4,g5,gI,hlt,aN,n0,ki.call,bO,k1.call,k2.call,k3.call];refine fin _ (vQ.trans hb) (by decide) _ _ _ ?_ ?_
     all_goals try simp only[aj,Nat.reduceEqDiff,g5]
    ·cases c3:iq x.max
     ·have hb:cX x=1:=by unfold cX;rw[ar (by simp[c3])]
      rw[c1]at k1;rw[c2]at k2;rw[c3]at k3;simp only[rL',aa,simprocAttr,g1,b0,g4,g5,gI,hlt,aN,n0,ki.call,bO,k1.call,k2.call,k3.call];refine fin _ (vQ.trans hb) (by decide) _ _ _ ?_ ?_
      all_goals try simp only[aj,Nat.reduceEqDiff,g5]
     ·rw[c1]at k1;rw[c2]at k2;rw[c3]at k3;by_cases c4:x.max<x.min
      ·have hb:cX x=1:=by unfold cX;rw[ar (by omega)]
       simp only[rL',aa,simprocAttr,g1,b0,g4,g5,gI,hlt,aN,n0,ki.call,bO,k1.call,k2.call,k3.call,c4];refine fin _ (vQ.trans hb) (by decide) _ _ _ ?_ ?_
       all_goals try simp only[aj,Nat.reduceEqDiff,g5]
      ·have hb:cX x=0:=by unfold cX;rw[aW ⟨c1,c2,c3,by omega⟩]
       simp only[rL',aa,simprocAttr,g1,b0,g4,g5,gI,hlt,aN,n0,ki.call,bO,k1.call,k2.call,k3.call,c4,wa,hw];refine CE (vQ.trans hb) _ _ _ (by omega) ?_ ?_ ?_ ?_ ?_
       all_goals try simp only[aj,Nat.reduceEqDiff,g1,n0,b0]
  ·have vQ:fM x.id last (cX x)=vR x.id last:=by unfold fM;rw[aW dT]
   simp only[rL',aa,simprocAttr,g1,b0,g4,g5,gI,hlt,aN,n0,ki.call,bO,k1.call,k2.call,k3.call,dT];refine fin _ vQ dT _ _ _ ?_ ?_
   all_goals try simp only[aj,Nat.reduceEqDiff,g5]
set_option maxRecDepth 100000 in
set_option maxHeartbeats 4000000 in
theorem LV(S:zI T)(s:bc)(hn:s.nodes.length<=2^28)(hl:s.aT.length<=2^28)(Ca:s.pods.length<=2^28)(a0:Int)(G4:0<=a0)(OH:a0<=2^29)(Q:Exit->St->Prop)(gU:Option (Int×Int))
    (bS:gU=none->∀fr hp nx,1<=nx->look fr 1=.ptr 0 0 0->look fr 5=.pv (.int .i64 (a0+(s.pods.length:Int)))->ah hp 0=.var [.pv (.slice (s.nodes.map bC)),.pv (.slice (s.aT.map bO)),.pv (.slice (s.pods.map aK))]->Q (.exit 4) ⟨fr,hp,nx⟩)
    (dK:∀c a,gU=some (c,a)->∀fr hp nx,look fr 2=.pv (.int .i64 c)->look fr 3=.pv (.int .i64 a)->Q .ret ⟨fr,hp,nx⟩) :
    ∀(rest:List dm) (i:Nat) (last:Int),s.pods.drop i=rest->i<=s.pods.length->last<=2147483647->fS dm.id (eh s) last (a0+i) rest=gU->∀(fr:List (Nat×AV)) (hp:Hl) (nx:Nat),1<=nx->look fr 1=.ptr 0 0 0 ->
     ah hp 0=.var [.pv (.slice (s.nodes.map bC)),.pv (.slice (s.aT.map bO)),.pv (.slice (s.pods.map aK))]->look fr 4=.pv (.int .i64 last)->look fr 5=.pv (.int .i64 (a0+i))->look fr 16=.pv (.int .i64 i)->Wp T false (.loop uu) ⟨fr,hp,nx⟩ Q:=by
 intro rest;induction rest with
 |nil =>
  intro i last hd hi sN ho fr hp nx ie g1 b0 g4 g5 gI;have hlen:=drop_nil hd hi;rw[az,aY uu.eq_1];simp only[rL',aa,simprocAttr,g1,b0,gI,hlen,aP];refine bS ho.symm _ _ _ ie ?_ ?_ b0
  all_goals try simp only[aj,Nat.reduceEqDiff,g1,g5]
  rw[hlen]
 |cons x r ih =>
  intro i last hd hi sN ho fr hp nx ie g1 b0 g4 g5 gI;obtain⟨aN,hlt,hw,dh,cW,Bp⟩:=drop_cons hd (by omega);have n0:¬nx=0:=by omega
  have wa:IntKind.i64.wrap (a0+(i:Int)+1)=a0+((i+1:Nat):Int):=by rw[dS] <;>omega
  have ki:=Cc S.Hc x.id last;rw[<-yT sN]at ki;have fin:∀c,fM x.id last ((eh s) x)=c->c≠0->∀fr hp nx,look fr 2=.pv (.int .i64 c)->look fr 3=.pv (.int .i64 (a0+i))->Q .ret ⟨fr,hp,nx⟩:=by
   intro c h1 h2;refine dK c _ ?_;rw[<-ho,fS];unfold jm;rw[h1,aW h2,jN]
  have CE:fM x.id last ((eh s) x)=0->∀fG hp' cC,1<=cC->look fG 1=look fr 1->ah hp' 0=ah hp 0->look fG 4=.pv (.int .i64 x.id)->look fG 5=.pv (.int .i64 (a0+((i+1:Nat):Int)))->look fG 16=.pv (.int .i64 ((i+1:Nat):Int))->Wp T false (.loop uu) ⟨fG,hp',cC⟩ Q:=by
   intro h1 fG hp' cC q1 q2 q3 q4 q5 q6;refine ih (i+1) x.id dh cW (sa h1) ?_ fG hp' cC q1 (q2.trans g1) (q3.trans b0) q4 q5 q6;rw[<-ho,fS];unfold jm;rw[h1,ar (by simp),mB,show a0+((i+1:Nat):Int)=a0+i+1 by omega]
  have k1:=p9 S.EW x.prio;have k2:=AL S.qT s x.load (by omega);have k3:=lz S.oB s x.node (by omega);simp only[aF]at k2 k3;rw[az,aY uu.eq_1];by_cases dT:vR x.id last=0
  ·have vQ:fM x.id last ((eh s) x)=(eh s) x:=by unfold fM;rw[ar (by simpa using dT)]
   rw[dT]at ki;cases c1:iq x.prio
   ·have hb:eh s x=1:=by unfold eh;rw[aW c1]
    rw[c1]at k1;simp only[rL',aa,simprocAttr,g1,b0,g4,g5,gI,hlt,aN,n0,ki.call,aK,k1.call,k2.call,k3.call];refine fin _ (vQ.trans hb) (by decide) _ _ _ ?_ ?_
    all_goals try simp only[aj,Nat.reduceEqDiff,g5]
   ·rw[c1]at k1;by_cases c2:iH x.load 0 s.aT<0
    ·have hb:eh s x=4:=by unfold eh;rw[ar (by simp[c1]),aW (.inl ((qg _ _ _).1 c2))]
     simp only[rL',aa,simprocAttr,g1,b0,g4,g5,gI,hlt,aN,n0,ki.call,aK,k1.call,k2.call,k3.call,c2];refine fin _ (vQ.trans hb) (by decide) _ _ _ ?_ ?_
     all_goals try simp only[aj,Nat.reduceEqDiff,g5]
    ·have pW:gw x.load s.aT≠none:=fun h=>c2 ((qg _ _ _).2 h);by_cases c3:x.node=0
     ·have hb:eh s x=0:=by unfold eh;rw[ar (by simp[c1]),ar (by simp[pW,c3])]
      have d3:=bJ c3;simp only[rL',aa,simprocAttr,g1,b0,g4,g5,gI,hlt,aN,n0,ki.call,aK,k1.call,k2.call,k3.call,c2,d3,wa,hw];refine CE (vQ.trans hb) _ _ _ (by omega) ?_ ?_ ?_ ?_ ?_
      all_goals try simp only[aj,Nat.reduceEqDiff,g1,n0,b0]
     ·by_cases c4:iI x.node 0 s.nodes<0
      ·have hb:eh s x=4:=by unfold eh;rw[ar (by simp[c1]),aW (.inr ⟨c3,(qh _ _ _).1 c4⟩)]
       simp only[rL',aa,simprocAttr,g1,b0,g4,g5,gI,hlt,aN,n0,ki.call,aK,k1.call,k2.call,k3.call,c2,c3,c4];refine fin _ (vQ.trans hb) (by decide) _ _ _ ?_ ?_
       all_goals try simp only[aj,Nat.reduceEqDiff,g5]
      ·have TX:dv x.node s.nodes≠none:=fun h=>c4 ((qh _ _ _).2 h);have hb:eh s x=0:=by unfold eh;rw[ar (by simp[c1]),ar (by simp[pW,TX])]
       simp only[rL',aa,simprocAttr,g1,b0,g4,g5,gI,hlt,aN,n0,ki.call,aK,k1.call,k2.call,k3.call,c2,c3,c4,wa,hw];refine CE (vQ.trans hb) _ _ _ (by omega) ?_ ?_ ?_ ?_ ?_
       all_goals try simp only[aj,Nat.reduceEqDiff,g1,n0,b0]
  ·have vQ:fM x.id last ((eh s) x)=vR x.id last:=by unfold fM;rw[aW dT]
   simp only[rL',aa,simprocAttr,g1,b0,g4,g5,gI,hlt,aN,n0,ki.call,aK,k1.call,k2.call,k3.call,dT];refine fin _ vQ dT _ _ _ ?_ ?_
   all_goals try simp only[aj,Nat.reduceEqDiff,g5]
end
end
section
section
variable{T:cK}
set_option maxRecDepth 100000 in
set_option maxHeartbeats 4000000 in
theorem BO(S:zI T)(s:bc):ba T 151 [aF s] (jO (gp s)):=by
 refine gives S.R9 rfl ?_;by_cases hz:kI s=true
 ·have Br:=hz;simp only[kI,bj,bI]at Br;obtain⟨z1,z2,z3,z4⟩:=Br;have y1:¬(s.nodes.length:Int)=0:=by omega
  have y2:¬(8:Int)<(s.nodes.length:Int):=by omega
  have y3:¬(8:Int)<(s.aT.length:Int):=by omega
  have y4:¬(12:Int)<(s.pods.length:Int):=by omega
  rw[gp,aW hz];have R:∀(o:Option (Int×Int)) (c a:Int),o=some (c,a)->∀fr hp nx,look fr 2=.pv (.int .i64 c)->look fr 3=.pv (.int .i64 a)->kR [.t 2,.t 3] (jO o) .ret ⟨fr,hp,nx⟩:=by
   rintro o c a rfl fr hp nx g2 g3
   simp only[ae,ag,aa,simprocAttr,-Int.reduceAdd,List.drop,List.take,g2,g3,jO]
  simp only[f151,ae,ag,aa,simprocAttr,-Int.reduceAdd,List.drop,List.take,aF,y1,y2,y3,y4];cases h1:fS Node.id cY 0 0 s.nodes with
  |some q =>
   rw[jN,jN];refine LS S s (by omega) (by omega) (by omega) 0 (J9 _) (by omega) _ (some q) (fun h=>by simp at h) (fun c a h fr hp nx g2 g3=>?_) s.nodes 0 0 rfl (aO _) (by omega) h1 _ _ _ (ax _) rfl rfl rfl rfl rfl;exact R _ c a h _ _ _ g2 g3
  |none =>
   rw[mB];refine LS S s (by omega) (by omega) (by omega) 0 (J9 _) (by omega) _ none (fun _ fr hp nx ie g1 g5 b0=>?_) (fun c a h=>by simp at h) s.nodes 0 0 rfl (aO _) (by omega) h1 _ _ _ (ax _) rfl rfl rfl rfl rfl;simp only[ae,ag,aa,simprocAttr,-Int.reduceAdd,List.drop,List.take,g1,g5,b0];have e0:(s.nodes.length:Int)+((0:Nat):Int)=s.nodes.length:=by omega
   have e1:(0:Int)+(s.nodes.length:Int)=s.nodes.length:=by omega
   cases h2:fS fF.id cX 0 s.nodes.length s.aT with
   |some q =>
    rw[jN];refine LU S s (by omega) (by omega) (by omega) s.nodes.length (by omega) (by omega) _ (some q) (fun h=>by simp at h) (fun c a h fr hp nx g2 g3=>?_) s.aT 0 0 rfl (aO _) (by omega) (by rw[e0,h2]) _ _ _ ie ?_ b0 ?_ ?_ ?_
    ·exact R _ c a h _ _ _ g2 g3
    all_goals try simp only[aj,Nat.reduceEqDiff,g1,g5,e0,e1]
    rfl
   |none =>
    rw[mB];refine LU S s (by omega) (by omega) (by omega) s.nodes.length (by omega) (by omega) _ none (fun _ fr hp nx ie g1 g5 b0=>?_) (fun c a h=>by simp at h) s.aT 0 0 rfl (aO _) (by omega) (by rw[e0,h2]) _ _ _ ie ?_ b0 ?_ ?_ ?_
    ·simp only[ae,ag,aa,simprocAttr,-Int.reduceAdd,List.drop,List.take,g1,g5,b0];have e2:(s.nodes.length:Int)+s.aT.length+((0:Nat):Int)=(s.nodes.length:Int)+s.aT.length:=by omega
     cases h3:fS dm.id (eh s) 0 ((s.nodes.length:Int)+s.aT.length) s.pods with
     |some q =>
      refine LV S s (by omega) (by omega) (by omega) (s.nodes.length+s.aT.length) (by omega) (by omega) _ (some q) (fun h=>by simp at h) (fun c a h fr hp nx g2 g3=>?_) s.pods 0 0 rfl (aO _) (by omega) (by rw[e2,h3]) _ _ _ ie ?_ b0 ?_ ?_ ?_
      ·exact R _ c a h _ _ _ g2 g3
      all_goals try simp only[aj,Nat.reduceEqDiff,g1,g5,e2]
      rfl
     |none =>
      refine LV S s (by omega) (by omega) (by omega) (s.nodes.length+s.aT.length) (by omega) (by omega) _ none (fun _ fr hp nx ie g1 g5 b0=>?_) (fun c a h=>by simp at h) s.pods 0 0 rfl (aO _) (by omega) (by rw[e2,h3]) _ _ _ ie ?_ b0 ?_ ?_ ?_
      ·simp only[ae,ag,aa,simprocAttr,-Int.reduceAdd,List.drop,List.take,jO]
      all_goals try simp only[aj,Nat.reduceEqDiff,g1,g5,e2]
      rfl
    all_goals try simp only[aj,Nat.reduceEqDiff,g1,g5,e0,e1]
    rfl
 ·have hc:jO (gp s)=.tuple [.int .i64 3,.int .i64 (-1)]:=by rw[gp,ar hz];rfl
  rw[hc];have Br:=hz;simp only[kI,bj,bI,not_and]at Br;by_cases c1:(s.nodes.length:Int)=0
  ·have d1:=bJ c1;simp only[f151,ae,ag,aa,simprocAttr,-Int.reduceAdd,List.drop,List.take,aF,d1]
  ·by_cases c2:(8:Int)<(s.nodes.length:Int)
   ·simp only[f151,ae,ag,aa,simprocAttr,-Int.reduceAdd,List.drop,List.take,aF,c1,c2]
   ·by_cases c3:(8:Int)<(s.aT.length:Int)
    ·simp only[f151,ae,ag,aa,simprocAttr,-Int.reduceAdd,List.drop,List.take,aF,c1,c2,c3]
    ·have c4:(12:Int)<(s.pods.length:Int):=by have:=Br (by omega) (by omega) (by omega);omega
     simp only[f151,ae,ag,aa,simprocAttr,-Int.reduceAdd,List.drop,List.take,aF,c1,c2,c3,c4]
end
end

section
/-! ### Plain:Vn SD where all may be -/
section
variable{T:cK}
end
end
section
def kW(z:Int):List Int->Nat
 |[]=>0
 |y::r=>if y<z then kW z r+1 else 0
def nV(z:Int)(l:List Int):List Int:=if l[kW z l]? =some z then l else l.take (kW z l)++z::l.drop (kW z l)
theorem xN(z:Int):∀l,kW z l<=l.length
 |[]=>ax _
 |y::r=>by
  have:=xN z r;simp only[kW,ay];split <;>omega
theorem Gz(z:Int):∀(l:List Int) (j:Nat),j<kW z l->∃y,l[j]? =some y/\y<z
 |[],j,h=>by simp[kW]at h
 |y::r,j,h=>by
  simp only[kW]at h;split at h
  ·rename_i hy;cases j with
   |zero=>exact⟨y,rfl,hy⟩
   |succ j =>
    obtain⟨x,h1,h2⟩:=Gz z r j (by omega);exact⟨x,by simpa using h1,h2⟩
  ·omega
theorem BD(z:Int):∀(l:List Int),kW z l=l.length\/∃y,l[kW z l]? =some y/\z<=y
 |[]=>.inl rfl
 |y::r=>by
  simp only[kW];split
  ·rcases BD z r with h|⟨x,h1,h2⟩
   ·left;simp[h]
   ·right;exact⟨x,by simpa using h1,h2⟩
  ·rename_i hy;right;exact⟨y,rfl,by omega⟩
theorem wX(z y:Int)(r:List Int):nV z (y::r)=if y<z then y::nV z r else if y=z then y::r else z::y::r:=by
 unfold nV;simp only[kW];by_cases h:y<z
 ·simp only[h,bz,eE,kj,List.drop_succ_cons];split <;>simp
 ·simp only[h,aJ,gQ,ai,List.take_zero,gL,aE]
theorem uU(z x:Int):∀l,x∈nV z l↔x=z\/x∈l
 |[]=>by simp[nV,kW]
 |y::r=>by
  rw[wX];split
  ·rw[aQ,uU z x r,aQ]
   grind
  ·split
   ·rename_i h;subst h;simp
   ·simp
theorem DK(z:Int):∀l:List Int,l.Pairwise (fun a b=>a<b)->(nV z l).Pairwise (fun a b=>a<b)
 |[],_=>by simp[nV,kW]
 |y::r,h=>by
  have h':=gS.1 h;rw[wX];split
  ·rename_i hy;refine gS.2 ⟨fun x hx=>?_,DK z r h'.2⟩;rcases(uU z x r).1 hx with rfl|hx
   ·exact hy
   ·exact h'.1 x hx
  ·split
   ·exact h
   ·refine gS.2 ⟨fun x hx=>?_,h⟩;rcases aQ.1 hx with rfl|hx
    ·omega
    ·have:=h'.1 x hx;omega
def jC(out:List Int):List Node->List Int
 |[]=>out
 |n::r=>jC (nV n.bW out) r
theorem xz:∀(l:List Node) (out:List Int),out.Pairwise (fun a b=>a<b)->(jC out l).Pairwise (fun a b=>a<b)/\∀x,x∈jC out l↔x∈out\/x∈l.map Node.bW
 |[],out,h=>⟨h,fun x=>by simp[jC]⟩
 |n::r,out,h=>by
  obtain⟨h1,h2⟩:=xz r (nV n.bW out) (DK _ _ h);refine⟨h1,fun x=>?_⟩;rw[jC,h2,uU,aX,aQ]
  grind
theorem G0(s:bc):jC [] s.nodes=ea s:=by
 obtain⟨h1,h2⟩:=xz s.nodes [] List.Pairwise.nil;refine xj h1 (FH _) fun x=>?_;rw[h2,show ea s=eo (s.nodes.map Node.bW)from rfl,jy];simp
theorem AF(z:Int)(l:List Int):(nV z l).length<=l.length+1:=by
 have:=xN z l;unfold nV;split
 ·omega
 ·simp;omega
section
variable{T:cK}
theorem IL(s:bc)(hl:s.nodes.length<=2^29)(n:Node)(i:Nat)(aN:s.nodes[i]? =some n)(out:List Int)(S1:out.length<=2^29)(hp:Hl)(nx:Nat)(v:AV)(hO:fo v hp 1 (out.map cD) 1 nx)
    (b0:ah hp 0=.var [.pv (.slice (s.nodes.map bC)),.pv (.slice (s.aT.map bO)),.pv (.slice (s.pods.map aK))]) (Q:Exit->St->Prop)
    (bS:∀fr,look fr 1=.ptr 0 0 0->look fr 3=v->look fr 4=.pv (.int .i64 i)->look fr 5=.pv (.int .i64 (kW n.bW out:Nat))->Q (.exit 2) ⟨fr,hp,nx⟩) :
    ∀(k j:Nat),kW n.bW out=j+k->∀(fr:List (Nat×AV)),look fr 1=.ptr 0 0 0->look fr 3=v->look fr 4=.pv (.int .i64 i)->look fr 5=.pv (.int .i64 (j:Int))->Wp T false (.loop rQ) ⟨fr,hp,nx⟩ Q:=by
 intro k;have hlt:i<s.nodes.length:=(aA.1 aN).1;have h0:(0:Int)<=(i:Int):=by omega
 have hle:=xN n.bW out;induction k with
 |zero =>
  intro j hk fr g1 g3 g4 g5;rw[fb]at hk;rcases hO with⟨he,rfl⟩|⟨id,rfl,i1,i2,i3⟩
  ·have ho:out=[]:=by simpa using he
   subst ho;have hj:¬(j:Int)<((0:Nat):Int):=by omega
   have z0:((0:Nat):Int)=0:=rfl;rw[z0]at hj;rw[az,aY rQ.eq_1];refine mf.2 (mf.2 ((cy rfl).2 ?_));simp only[rL',aa,simprocAttr,g1,g3,g4,g5,b0,hj,z0];refine bS _ ?_ ?_ ?_ ?_
   all_goals try simp only[aj,Nat.reduceEqDiff,g1,g3,g4,g5,hk]
  ·rcases BD n.bW out with h|⟨y,h1,h2⟩
   ·have hj:¬(j:Int)<(out.length:Int):=by omega
    rw[az,aY rQ.eq_1];refine mf.2 (mf.2 ((cy rfl).2 ?_));simp only[rL',aa,simprocAttr,g1,g3,g4,g5,b0,i3,hj];refine bS _ ?_ ?_ ?_ ?_
    all_goals try simp only[aj,Nat.reduceEqDiff,g1,g3,g4,g5,hk]
   ·have pk:j<out.length:=by rw[hk]at h1;exact(aA.1 h1).1
    have hj:(j:Int)<(out.length:Int):=by omega
    rw[hk]at h1;have hy:¬y<n.bW:=by omega
    rw[az,aY rQ.eq_1];refine mf.2 (mf.2 ((cy rfl).2 ?_));simp only[rL',aa,simprocAttr,g1,g3,g4,g5,b0,i3,hj,pk,h1,cD,aN,bC,hy];refine bS _ ?_ ?_ ?_ ?_
    all_goals try simp only[aj,Nat.reduceEqDiff,g1,g3,g4,g5,hk]
 |succ k ih =>
  intro j hk fr g1 g3 g4 g5;obtain⟨y,h1,h2⟩:=Gz n.bW out j (by omega);have pk:j<out.length:=(aA.1 h1).1;have hj:(j:Int)<(out.length:Int):=by omega
  have hw:IntKind.i64.wrap ((j:Int)+1)=((j+1:Nat):Int):=by rw[dS] <;>omega
  have Nv:=hO;rcases hO with⟨he,rfl⟩|⟨id,rfl,i1,i2,i3⟩
  ·have ho:out=[]:=by simpa using he
   subst ho;simp at pk
  ·rw[az,aY rQ.eq_1];refine mf.2 (mf.2 ((cy rfl).2 ?_));simp only[rL',aa,simprocAttr,g1,g3,g4,g5,b0,i3,hj,pk,h1,cD,aN,bC,h2,hw];refine ih (j+1) (by omega) _ ?_ ?_ ?_ ?_
   all_goals try simp only[aj,Nat.reduceEqDiff,g1,g3,g4]
theorem L5(s:bc)(hl:s.nodes.length<=2^28)(Q:Exit->St->Prop)
    (bS:∀fr hp nx,fo (look fr 3) hp 1 ((jC [] s.nodes).map cD) 1 nx->Q (.exit 0) ⟨fr,hp,nx⟩) :
    ∀(rest:List Node) (i:Nat) (out:List Int),s.nodes.drop i=rest->i<=s.nodes.length->out.length<=i->jC out rest=jC [] s.nodes->∀(fr:List (Nat×AV)) (hp:Hl) (nx:Nat),1<=nx->look fr 1=.ptr 0 0 0->look fr 4=.pv (.int .i64 i) ->
     ah hp 0=.var [.pv (.slice (s.nodes.map bC)),.pv (.slice (s.aT.map bO)),.pv (.slice (s.pods.map aK))]->fo (look fr 3) hp 1 (out.map cD) 1 nx->Wp T false (.loop rR) ⟨fr,hp,nx⟩ Q:=by
 intro rest;induction rest with
 |nil =>
  intro i out hd hi S1 ho fr hp nx ie g1 g4 b0 h3;have hlen:=drop_nil hd hi;simp only[jC]at ho;rw[az,aY rR.eq_1];simp only[rL',aa,simprocAttr,g1,b0,g4,hlen,aP];exact bS _ _ _ (by simp only[aj,Nat.reduceEqDiff];rw[<-ho];exact h3)
 |cons n r ih =>
  intro i out hd hi S1 ho fr hp nx ie g1 g4 b0 h3;obtain⟨aN,hlt,hw,dh,cW,hb⟩:=drop_cons hd (by omega);have hle:=xN n.bW out;generalize hv:look fr 3=v at h3;rw[az,aY rR.eq_1];simp only[rL',aa,simprocAttr,g1,b0,g4,hlt];refine IL s (by omega) n i aN out (by omega) hp nx v h3 b0 _ (fun fG q1 q3 q4 q5=>?_) (kW n.bW out) 0 (aM _).symm _ ?_ ?_ ?_ ?_
  ·simp only[rL',aa,simprocAttr];refine(cy rfl).2 ?_;have go:∀HY,jC HY r=jC [] s.nodes->HY.length<=i+1->∀fG hp' cC,1<=cC->look fG 1=.ptr 0 0 0->ah hp' 0=ah hp 0->look fG 4=.pv (.int .i64 ((i+1:Nat):Int))->fo (look fG 3) hp' 1 (HY.map cD) 1 cC->Wp T false (.loop rR) ⟨fG,hp',cC⟩ Q:=by
    intro HY h1 h2 fG hp' cC z1 z2 z3 z4 z5;exact ih (i+1) HY dh cW h2 h1 _ _ _ z1 z2 z4 (z3.trans b0) z5
   have Vr:(out[kW n.bW out]? ≠some n.bW)->∀(es:List (List PV)),dV (ah hp) v=some es->True:=fun _ _ _=>trivial;simp only[jC]at ho;rcases h3 with⟨he,rfl⟩|⟨id,rfl,i1,i2,i3⟩
   ·have UF:out=[]:=by simpa using he
    subst UF;have z0:((0:Nat):Int)=0:=rfl;have ez:kW n.bW []=0:=rfl;rw[ez,z0]at q5;have e1:¬nx=0:=by omega
    have e2:¬nx+1=0:=by omega
    have e3:¬nx+1+1=0:=by omega
    have p1:(1:Nat)<=2^30:=by decide
    have p0:(0:Nat)<=2^30:=by decide
    have ei:nV n.bW []=[n.bW]:=rfl;simp only[rL',aa,simprocAttr,q1,q3,q4,q5,b0,z0,aP,nd,nX,ft,ff,ic,bt,dV,chunk,cn,bL,bV,fR,eQ,aN,bC,e1,e2,e3,hw,p0,p1,aM];refine go [n.bW] (by rw[<-ei];exact ho) (by simp) _ _ _ (by omega) ?_ ?_ ?_ ?_
    all_goals try simp only[aj,Nat.reduceEqDiff,q1,e1,e2,e3]
    refine .inr ⟨_,rfl,by omega,by omega,?_⟩;have e5:¬nx=nx+1:=by omega
    simp only[aj,Nat.reduceEqDiff,aX,aC,cD,e5]
   ·have e1:¬nx=0:=by omega
    have e2:¬nx+1=0:=by omega
    have e3:¬nx+1+1=0:=by omega
    have e4:¬nx+1+1+1=0:=by omega
    have d1:¬nx=id:=by omega
    have d2:¬nx+1=id:=by omega
    have d3:¬nx+1+1=id:=by omega
    have d4:¬nx+1+1+1=id:=by omega
    by_cases heq:out[kW n.bW out]? =some n.bW
    ·have pk:kW n.bW out<out.length:=(aA.1 heq).1;have hj:((kW n.bW out:Nat):Int)<(out.length:Int):=by omega
     have ei:nV n.bW out=out:=by unfold nV;rw[aW heq]
     have dz:decide (n.bW=n.bW)=true:=bJ rfl;simp only[rL',aa,simprocAttr,q1,q3,q4,q5,b0,i3,hj,pk,heq,cD,aN,bC,dz,hw];refine go out (by rw[ei]at ho;exact ho) (by omega) _ _ _ ie ?_ rfl ?_ ?_
     all_goals try simp only[aj,Nat.reduceEqDiff,q1,q3]
     exact .inr ⟨id,rfl,i1,i2,i3⟩
    ·have ei:nV n.bW out=out.take (kW n.bW out)++n.bW::out.drop (kW n.bW out):=by unfold nV;rw[ar heq]
     have a1:(out.map cD).take (kW n.bW out)=(out.take (kW n.bW out)).map cD:=(List.map_take ..).symm;have a2:((out.map cD).drop (kW n.bW out)).take (out.length-kW n.bW out)=(out.drop (kW n.bW out)).map cD:=by
      rw[qx (by simp),<-List.map_drop]
     have l1:∀l:List Int,cn 1 (l.map cD)=true:=fun l=>by simp[cn,cD]
     have l2:cn 1 [[PV.int .i64 n.bW]]=true:=rfl;have t1:(out.take (kW n.bW out)).length=kW n.bW out:=by rw[ib];omega
     have t2:(out.drop (kW n.bW out)).length=out.length-kW n.bW out:=List.length_drop ..
     have p0:kW n.bW out<=2^30:=by omega
     have p1:kW n.bW out+1<=2^30:=by omega
     have p2:kW n.bW out+1+(out.length-kW n.bW out)<=2^30:=by omega
     have p3:kW n.bW out+(out.length-kW n.bW out)<=out.length:=by omega
     have fin:∀(K:Prop),(¬((kW n.bW out:Nat):Int)<(out.length:Int)->K)->(∀y,((kW n.bW out:Nat):Int)<(out.length:Int)->kW n.bW out<out.length->out[kW n.bW out]? =some y->¬y=n.bW->K)->K:=by
      intro K h1 h2;rcases BD n.bW out with h|⟨y,g1,g2⟩
      ·exact h1 (by omega)
      ·have pk:kW n.bW out<out.length:=(aA.1 g1).1;exact h2 y (by omega) pk g1 (fun h=>heq (by rw[g1,h]))
     have done:∀H6:List (Nat×AV),look H6 1=.ptr 0 0 0->look H6 4=.pv (.int .i64 ((i+1:Nat):Int))->look H6 3=.ms (nx+4)->∀Hr,ah Hr 0=ah hp 0->ah Hr (nx+4)=.row 1 (List.map cD (List.take (kW n.bW out) out)++[[.int .i64 n.bW]]++List.map cD (List.drop (kW n.bW out) out))->Wp T false (.loop rR) ⟨H6,Hr,nx+5⟩ Q:=by
      intro H6 z1 z2 z3 Hr z4 z5;have z6:ah Hr (nx+4)=.row 1 ((nV n.bW out).map cD):=by
       rw[z5,ei,bh,aX,gm];rfl
      exact go (nV n.bW out) ho (by have:=AF n.bW out;omega) _ _ _ (by omega) z1 z4 z2 (by rw[z3];exact .inr ⟨_,rfl,by omega,by omega,z6⟩)
     have f1:¬nx+2+1=0:=by omega
     have f2:¬nx+4=0:=by omega
     have f3:¬nx+2=0:=by omega
     have f4:¬nx+2+1=nx+4:=by omega
     have f5:¬nx+2=nx+1:=by omega
     refine fin _ (fun hj=>?_) (fun y hj pk hy eA=>?_)
     ·simp only[rL',aa,simprocAttr,q1,q3,q4,q5,b0,i3,hj,nd,nX,ft,ff,ic,bt,dV,chunk,fR,eQ,aN,bC,e1,e2,e3,e4,d1,d2,d3,d4,hw,a1,a2,l1,l2,t1,t2,p0,p1,p2,p3,hle,aO,Nat.sub_zero,aG,cD];refine done _ ?_ ?_ ?_ _ ?_ ?_
      all_goals try simp only[aj,Nat.reduceEqDiff,q1,e1,e2,f1,f2,f3,f4]
     ·simp only[rL',aa,simprocAttr,q1,q3,q4,q5,b0,i3,hj,pk,hy,eA,nd,nX,ft,ff,ic,bt,dV,chunk,fR,eQ,aN,bC,e1,e2,e3,e4,d1,d2,d3,d4,hw,a1,a2,l1,l2,t1,t2,p0,p1,p2,p3,hle,aO,Nat.sub_zero,aG,cD];refine done _ ?_ ?_ ?_ _ ?_ ?_
      all_goals try simp only[aj,Nat.reduceEqDiff,q1,e1,e2,f1,f2,f3,f4]
  all_goals try simp only[aj,Nat.reduceEqDiff,g1,g4,hv]
  rfl
theorem G1(Mj:Std T 158 f158)(s:bc)(hl:s.nodes.length<=2^28):ba T 158 [aF s] (.slice ((ea s).map cD)):=by
 refine gives Mj rfl ?_;rw[<-G0];simp only[f158,rL',aa,simprocAttr,aF];refine L5 s hl _ (fun fr hp nx h3=>?_) s.nodes 0 [] rfl (aO _) (ax _) rfl _ _ _ (ax _) rfl rfl rfl fo.nil;simp only[rL',aa,simprocAttr,h3.snap]
def mr(id:Int):Nat->List Want->Int
 |_,[]=> -1
 |i,p::r=>if p.eP=id then i else mr id (i+1) r
theorem kE(id:Int):∀(l:List Want) (i:Nat),(jV id l=none/\mr id i l= -1)\/∃j p,l[j]? =some p/\jV id l=some p/\mr id i l=((i+j:Nat):Int)
 |[],i=>.inl ⟨rfl,rfl⟩
 |p::r,i=>by
  by_cases hp:p.eP=id
  ·exact .inr ⟨0,p,rfl,by simp[jV,hp],by simp[mr,hp]⟩
  ·rcases kE id r (i+1)with⟨h1,h2⟩|⟨j,q,h1,h2,h3⟩
   ·exact .inl ⟨by simpa[jV,hp]using h1,by simp[mr,hp,h2]⟩
   ·refine .inr ⟨j+1,q,by simpa using h1,by simpa[jV,hp]using h2,?_⟩;simp only[mr,ar hp,h3];omega
theorem Bj(x:Spec)(id:Int)(hl:x.b9.length<=2^30)(Q:Exit->St->Prop)(o:Int)
    (bS:o= -1->∀fr hp nx,Q (.exit 0) ⟨fr,hp,nx⟩) (dK:∀fr hp nx,look fr 4=.pv (.int .i64 o)->Q .ret ⟨fr,hp,nx⟩) :
    ∀(rest:List Want) (i:Nat),x.b9.drop i=rest->i<=x.b9.length->mr id i rest=o->∀(fr:List (Nat×AV)) (hp:Hl) (nx:Nat),look fr 5=.pv (.int .i64 i)->look fr 1=.pv (.int .i64 id)->look fr 2=.ptr 0 0 0 ->
     ah hp 0=.var [.pv (.slice (x.b9.map cj)),.pv (.int .i64 x.pre),.pv (.int .i64 x.fe)]->Wp T false (.loop y5) ⟨fr,hp,nx⟩ Q:=by
 intro rest;induction rest with
 |nil =>
  intro i hd hi ho fr hp nx h5 h1 h2 b0;have hlen:=drop_nil hd hi;rw[az,aY y5.eq_1];simp only[rL',aa,simprocAttr,h5,h1,h2,b0,hlen,aP];exact bS ho.symm _ _ _
 |cons n r ih =>
  intro i hd hi ho fr hp nx h5 h1 h2 b0;obtain⟨aN,hlt,hw,dh,cW,hb⟩:=drop_cons hd hl;simp only[mr]at ho;rw[az,aY y5.eq_1];by_cases hk:n.eP=id
  ·rw[aW hk]at ho;simp only[rL',aa,simprocAttr,h5,h1,h2,b0,hlt,aN,cj,hk];exact dK _ _ _ (by simp only[bH,Nat.reduceEqDiff,bz,aJ,<-ho])
  ·rw[ar hk]at ho;simp only[rL',aa,simprocAttr,h5,h1,h2,b0,hlt,aN,cj,hk,hw];refine ih (i+1) dh cW ho _ _ _ ?_ ?_ ?_ b0
   all_goals try simp only[aj,Nat.reduceEqDiff,h1,h2]
theorem pt(EV:Std T 157 f157)(x:Spec)(id:Int)(hl:x.b9.length<=2^30):ba T 157 [bg x,.int .i64 id] (.int .i64 (mr id 0 x.b9)):=by
 refine gives EV rfl ?_;simp only[f157,rL',aa,simprocAttr,bg];refine Bj x id hl _ (mr id 0 x.b9) (fun ho fr hp nx=>?_) (fun fr hp nx h4=>?_) x.b9 0 rfl (aO _) rfl _ _ _ rfl rfl rfl rfl
 ·simp only[rL',aa,simprocAttr,ho]
 ·simp only[rL',aa,simprocAttr,h4]
end
end
section
theorem wZ(id:Int):∀(l:List fF) (i:Nat),(gw id l=none/\iH id i l= -1)\/∃j p,l[j]? =some p/\gw id l=some p/\iH id i l=((i+j:Nat):Int)
 |[],i=>.inl ⟨rfl,rfl⟩
 |p::r,i=>by
  by_cases hp:p.id=id
  ·exact .inr ⟨0,p,rfl,by simp[gw,hp],by simp[iH,hp]⟩
  ·rcases wZ id r (i+1)with⟨h1,h2⟩|⟨j,q,h1,h2,h3⟩
   ·exact .inl ⟨by simpa[gw,hp]using h1,by simp[iH,hp,h2]⟩
   ·refine .inr ⟨j+1,q,by simpa using h1,by simpa[gw,hp]using h2,?_⟩;simp only[iH,ar hp,h3];omega
section
variable{T:cK}
theorem L1(w7:Std T 180 f180)(qT:Std T 154 f154)(s:bc)(hs:s.aT.length<=2^30)(a b:dm):ba T 180 [aF s,.agg (aK a),.agg (aK b)] (.bool (wx s.aT a b)):=by
 refine gives w7 rfl ?_;have k:=AL qT s a.load hs;simp only[aF]at k;unfold wx;rcases wZ a.load s.aT 0 with⟨h1,h2⟩|⟨j,p,h1,h2,h3⟩
 ·rw[h2]at k;simp only[f180,rL',aa,simprocAttr,aF,aK,k.call,h1,dU]
 ·rw[h3,aM]at k;have hj:¬(j:Int)<0:=by omega
  have pk:j<s.aT.length:=(aA.1 h1).1;by_cases c1:a.load=b.load
  ·have d1:=bJ c1;by_cases c2:a.node=0
   ·have d2:=bJ c2;simp only[f180,rL',aa,simprocAttr,aF,aK,k.call,h2,hj,d1,d2,dU,cA,decide_not]
   ·by_cases c3:a.node=b.node
    ·have d3:=bJ c3;simp only[f180,rL',aa,simprocAttr,aF,aK,k.call,h1,h2,hj,d1,c2,d3,bO,bq]
    ·simp only[f180,rL',aa,simprocAttr,aF,aK,k.call,h2,hj,d1,c2,c3,dU,cA]
  ·simp only[f180,rL',aa,simprocAttr,aF,aK,k.call,h2,hj,c1,dU,cA]
theorem Kw(JU:Std T 175 f175)(nT:Std T 167 f167)(t:State)(a b:Int)(hl:t.pods.length<=2^29):ba T 175 [aw t,.int .i64 a,.int .i64 b] (.bool (AR t a b)):=by
 have k1:=hG nT t a (by omega);have k2:=hG nT t b (by omega);simp only[aw]at k1 k2;refine gives JU rfl ?_;unfold AR;rcases bZ a t.pods 0 with⟨h1,h2⟩|⟨j,p,h1,h2,h3,h4⟩
 ·rw[h2]at k1;rcases bZ b t.pods 0 with⟨g1,g2⟩|⟨i,q,g1,g2,g3,g4⟩
  ·rw[g2]at k2;simp only[f175,rL',aa,simprocAttr,aw,k1.call,k2.call,h1]
  ·rw[g3,aM]at k2;simp only[f175,rL',aa,simprocAttr,aw,k1.call,k2.call,h1]
 ·rw[h3,aM]at k1;have hj:¬(j:Int)<0:=by omega
  rcases bZ b t.pods 0 with⟨g1,g2⟩|⟨i,q,g1,g2,g3,g4⟩
  ·rw[g2]at k2;simp only[f175,rL',aa,simprocAttr,aw,k1.call,k2.call,h2,g1,hj]
  ·rw[g3,aM]at k2;have hi:¬(i:Int)<0:=by omega
   simp only[f175,rL',aa,simprocAttr,aw,k1.call,k2.call,h2,g2,hj,hi];refine(ef rfl).2 ?_;simp only[rL',aa,simprocAttr,h1,g1,aK]
theorem A5(oB:Std T 155 f155)(s:bc)(t:State)(load bW:Int)(hn:s.nodes.length<=2^29)(hl:t.pods.length<=2^29)(Q:Exit->St->Prop)
    (bS:∀fr hp nx,look fr 9=.pv (.int .i64 (fN s load bW t.pods:Nat))->Q (.exit 0) ⟨fr,hp,nx⟩) :
    ∀(rest:List dm) (i acc:Nat),t.pods.drop i=rest->i<=t.pods.length->acc+fN s load bW rest=fN s load bW t.pods->∀(fr:List (Nat×AV)) (hp:Hl) (nx:Nat),2<=nx->look fr 2=.pv (.int .i64 load)->look fr 3=.pv (.int .i64 bW)->look fr 4=.ptr 0 0 0->look fr 5=.ptr 1 0 0 ->
     ah hp 0=.var [.pv (.slice (s.nodes.map bC)),.pv (.slice (s.aT.map bO)),.pv (.slice (s.pods.map aK))]->ah hp 1=.var [.pv (.slice (t.pods.map aK)),.pv (.int .i64 t.pre),.pv (.int .i64 t.fe)] ->
     look fr 9=.pv (.int .i64 (acc:Int))->look fr 10=.pv (.int .i64 i)->Wp T false (.loop uw) ⟨fr,hp,nx⟩ Q:=by
 intro rest;induction rest with
 |nil =>
  intro i acc hd hi ho fr hp nx ie g2 g3 g4 g5 b0 b1 g9 te;have hlen:=drop_nil hd hi;simp only[fN,fb]at ho;subst ho;rw[az,aY uw.eq_1];simp only[rL',aa,simprocAttr,g4,g5,b0,b1,te,hlen,aP];exact bS _ _ _ (by simp only[aj,Nat.reduceEqDiff];exact g9)
 |cons p r ih =>
  intro i acc hd hi ho fr hp nx ie g2 g3 g4 g5 b0 b1 g9 te;obtain⟨aN,hlt,hw,dh,cW,hb⟩:=drop_cons hd (by omega);have n0:¬nx=0:=by omega
  have n1:¬nx=1:=by omega
  have C7:acc+1<=2^30:=by
   have h1:=lN s load bW t.pods;have h2:=lN s load bW (p::r);omega
  have k:=lz oB s p.node (by omega);simp only[aF]at k;have skip:uT s load bW p=false->∀fG hp' cC,2<=cC->look fG 2=look fr 2->look fG 3=look fr 3->look fG 4=look fr 4->look fG 5=look fr 5->ah hp' 0=ah hp 0->ah hp' 1=ah hp 1->look fG 9=look fr 9->look fG 10=.pv (.int .i64 ((i+1:Nat):Int))->Wp T false (.loop uw) ⟨fG,hp',cC⟩ Q:=by
   intro h fG hp' cC q1 q2 q3 q4 q5 q6 q7 q8 q9;exact ih (i+1) acc dh cW (by rw[<-ho,fN,h];simp) _ _ _ q1 (q2.trans g2) (q3.trans g3) (q4.trans g4) (q5.trans g5) (q6.trans b0) (q7.trans b1) (q8.trans g9) q9
  rw[az,aY uw.eq_1];by_cases c1:p.load=load
  ·have d1:=bJ c1;by_cases c2:p.node=0
   ·have d2:=bJ c2;have hz:uT s load bW p=false:=by simp[uT,c2]
    simp only[rL',aa,simprocAttr,g2,g3,g4,g5,b0,b1,g9,te,hlt,aN,aK,n0,n1,k.call,d1,d2,hw];refine skip hz _ _ _ (by omega) ?_ ?_ ?_ ?_ ?_ ?_ ?_ ?_
    all_goals try simp only[aj,Nat.reduceEqDiff,n0,n1]
   ·rcases ik p.node s.nodes 0 with⟨e1,e2⟩|⟨j,x,e1,e2,e3⟩
    ·have hz:uT s load bW p=false:=by simp[uT,qq,e1]
     rw[e2]at k;simp only[rL',aa,simprocAttr,g2,g3,g4,g5,b0,b1,g9,te,hlt,aN,aK,n0,n1,k.call,d1,c2,hw];refine skip hz _ _ _ (by omega) ?_ ?_ ?_ ?_ ?_ ?_ ?_ ?_
     all_goals try simp only[aj,Nat.reduceEqDiff,n0,n1]
    ·rw[e3,aM]at k;have hj:¬(j:Int)<0:=by omega
     by_cases c3:x.bW=bW
     ·have d3:=bJ c3;have hz:uT s load bW p=true:=by simp[uT,qq,e2,c1,c2,c3]
      have MQ:IntKind.i64.wrap ((acc:Int)+1)=((acc+1:Nat):Int):=by rw[dS] <;>omega
      simp only[rL',aa,simprocAttr,g2,g3,g4,g5,b0,b1,g9,te,hlt,aN,aK,n0,n1,k.call,d1,c2,hj,e1,bC,d3,hw,MQ];refine ih (i+1) (acc+1) dh cW (by rw[<-ho,fN,hz];simp;omega) _ _ _ (by omega) ?_ ?_ ?_ ?_ ?_ ?_ ?_ ?_
      all_goals try simp only[aj,Nat.reduceEqDiff,n0,n1,g2,g3,g4,g5,b0,b1]
     ·have hz:uT s load bW p=false:=by simp[uT,qq,e2,c3]
      simp only[rL',aa,simprocAttr,g2,g3,g4,g5,b0,b1,g9,te,hlt,aN,aK,n0,n1,k.call,d1,c2,hj,e1,bC,c3,hw];refine skip hz _ _ _ (by omega) ?_ ?_ ?_ ?_ ?_ ?_ ?_ ?_
      all_goals try simp only[aj,Nat.reduceEqDiff,n0,n1]
  ·have hz:uT s load bW p=false:=by simp[uT,c1]
   simp only[rL',aa,simprocAttr,g2,g3,g4,g5,b0,b1,g9,te,hlt,aN,aK,n0,n1,k.call,c1,hw];refine skip hz _ _ _ (by omega) ?_ ?_ ?_ ?_ ?_ ?_ ?_ ?_
   all_goals try simp only[aj,Nat.reduceEqDiff,n0,n1]
theorem wK(JT:Std T 174 f174)(oB:Std T 155 f155)(s:bc)(t:State)(load bW:Int)(hn:s.nodes.length<=2^29)(hl:t.pods.length<=2^29):ba T 174 [aF s,aw t,.int .i64 load,.int .i64 bW] (.int .i64 (fN s load bW t.pods:Nat)):=by
 refine gives JT rfl ?_;simp only[f174,rL',aa,simprocAttr,aF,aw];refine A5 oB s t load bW hn hl _ (fun fr hp nx g9=>?_) t.pods 0 0 rfl (aO _) (aM _) _ _ _ (ax _) rfl rfl rfl rfl rfl rfl rfl rfl;simp only[rL',aa,simprocAttr,g9]
end
end
section
def IV:Option (Int×Int)->Int
 |none=> -1
 |some (_,i)=>i
section
variable{T:cK}
set_option maxHeartbeats 4000000 in
theorem Ek(w7:Std T 180 f180)(qT:Std T 154 f154)(s:bc)(t:State)(hs:s.aT.length<=2^29)(ht:t.pods.length<=2^29)(i:Nat)(p:dm)(S5:t.pods[i]? =some p)(hp:Hl)(nx:Nat)
    (b0:ah hp 0=.var [.pv (.slice (s.nodes.map bC)),.pv (.slice (s.aT.map bO)),.pv (.slice (s.pods.map aK))]) (b1:ah hp 1=.var [.pv (.slice (t.pods.map aK)),.pv (.int .i64 t.pre),.pv (.int .i64 t.fe)])
    (Q:Exit->St->Prop) (b:Bool)
    (bS:b=false->∀fr,look fr 2=.ptr 0 0 0->look fr 3=.ptr 1 0 0->look fr 5=.pv (.int .i64 i)->Q (.exit 2) ⟨fr,hp,nx⟩)
    (dK:b=true->∀fr,look fr 4=.pv (.int .i64 i)->Q .ret ⟨fr,hp,nx⟩) :
    ∀(rest:List dm) (k:Nat),(t.pods.take i).drop k=rest->k<=(t.pods.take i).length->rest.any (fun q=>wx s.aT p q)=b->∀(fr:List (Nat×AV)),
     look fr 2=.ptr 0 0 0->look fr 3=.ptr 1 0 0->look fr 5=.pv (.int .i64 i)->look fr 6=.pv (.int .i64 k)->Wp T false (.loop yb) ⟨fr,hp,nx⟩ Q:=by
 have Th:i<t.pods.length:=(aA.1 S5).1;have htl:(t.pods.take i).length=i:=by rw[ib];omega
 intro rest;induction rest with
 |nil =>
  intro k hd hk hb fr h2 h3 h5 h6;have hlen:=drop_nil hd hk;rw[htl]at hlen;subst hlen;rw[az,aY yb.eq_1];simp only[rL',aa,simprocAttr,h2,h3,h5,h6,aP];refine bS (by rw[<-hb];rfl) _ ?_ ?_ ?_
  all_goals try simp only[aj,Nat.reduceEqDiff,h2,h3,h5]
 |cons q r ih =>
  intro k hd hk hb fr h2 h3 h5 h6;obtain⟨aN,hlt,hw,dh,Qm,Bp⟩:=drop_cons hd (by omega);rw[htl]at hlt;have OY:k<i:=by omega
  have Tg:t.pods[k]? =some q:=by
   rw[md]at aN;rw[aW OY]at aN;exact aN
  have kt:=L1 w7 qT s (by omega) p q;simp only[aF]at kt;rw[az,aY yb.eq_1];simp only[rL',aa,simprocAttr,h2,h3,h5,h6,hlt];refine(ef rfl).2 ?_;cases h:wx s.aT p q with
  |false =>
   rw[h]at kt;simp only[aK]at kt;simp only[rL',aa,simprocAttr,h2,h3,h5,h6,b0,b1,S5,Tg,aK,kt.cm,hw];refine ih (k+1) dh Qm (by rw[<-hb];simp[h]) _ ?_ ?_ ?_ ?_
   all_goals try simp only[aj,Nat.reduceEqDiff,h2,h3,h5]
  |true =>
   rw[h]at kt;simp only[aK]at kt;simp only[rL',aa,simprocAttr,h2,h3,h5,h6,b0,b1,S5,Tg,aK,kt.cm];refine dK (by rw[<-hb];simp[h]) _ ?_
   all_goals try simp only[aj,Nat.reduceEqDiff,h5]
set_option maxHeartbeats 4000000 in
theorem BA(w7:Std T 180 f180)(qT:Std T 154 f154)(s:bc)(t:State)(hs:s.aT.length<=2^29)(ht:t.pods.length<=2^29)(hp:Hl)(nx:Nat)
    (b0:ah hp 0=.var [.pv (.slice (s.nodes.map bC)),.pv (.slice (s.aT.map bO)),.pv (.slice (s.pods.map aK))]) (b1:ah hp 1=.var [.pv (.slice (t.pods.map aK)),.pv (.int .i64 t.pre),.pv (.int .i64 t.fe)])
    (Q:Exit->St->Prop) (o:Option (Int×Int))
    (bS:o=none->∀fr,Q (.exit 0) ⟨fr,hp,nx⟩) (dK:∀c a,o=some (c,a)->∀fr,look fr 4=.pv (.int .i64 a)->Q .ret ⟨fr,hp,nx⟩) :
    ∀(rest:List dm) (i:Nat),t.pods.drop i=rest->i<=t.pods.length->dN s.aT (t.pods.take i) rest=o->∀(fr:List (Nat×AV)),
     look fr 2=.ptr 0 0 0->look fr 3=.ptr 1 0 0->look fr 5=.pv (.int .i64 i)->Wp T false (.loop yc) ⟨fr,hp,nx⟩ Q:=by
 intro rest;induction rest with
 |nil =>
  intro i hd hi ho fr h2 h3 h5;have hlen:=drop_nil hd hi;rw[az,aY yc.eq_1];simp only[rL',aa,simprocAttr,h2,h3,h5,b1,hlen,aP];exact bS ho.symm _
 |cons p r ih =>
  intro i hd hi ho fr h2 h3 h5;obtain⟨aN,hlt,hw,dh,cW,Bp⟩:=drop_cons hd (by omega);have htl:(t.pods.take i).length=i:=by rw[ib];omega
  have Pl:t.pods.take (i+1)=t.pods.take i++[p]:=by
   have Th:i<t.pods.length:=by omega
   rw[List.take_add_one,aN];rfl
  simp only[dN]at ho;rw[az,aY yc.eq_1];simp only[rL',aa,simprocAttr,h2,h3,h5,b1,hlt];refine Ek w7 qT s t hs ht i p aN hp nx b0 b1 _ _ (fun hb fr g2 g3 g5=>?_) (fun hb fr g4=>?_) (t.pods.take i) 0 rfl (aO _) rfl _ ?_ ?_ ?_ ?_
  ·rw[ar (by rw[hb];simp)]at ho;simp only[rL',aa,simprocAttr,g5,hw];refine ih (i+1) dh cW (by rw[Pl];exact ho) _ ?_ ?_ ?_
   all_goals try simp only[aj,Nat.reduceEqDiff,g2,g3]
  ·rw[aW hb,htl]at ho;simp only[rL',aa,simprocAttr];exact dK 10 i ho.symm _ g4
  all_goals try simp only[aj,Nat.reduceEqDiff,h2,h3,h5]
  rfl
theorem El(JR:Std T 172 f172)(w7:Std T 180 f180)(qT:Std T 154 f154)(s:bc)(t:State)(hs:s.aT.length<=2^29)(ht:t.pods.length<=2^29):ba T 172 [aF s,aw t] (.int .i64 (IV (dN s.aT [] t.pods))):=by
 refine gives JR rfl ?_;simp only[f172,rL',aa,simprocAttr,aF,aw];refine BA w7 qT s t hs ht _ _ rfl rfl _ (dN s.aT [] t.pods) (fun ho fr=>?_) (fun c a ho fr h4=>?_) t.pods 0 rfl (aO _) rfl _ rfl rfl rfl
 ·simp only[rL',aa,simprocAttr,ho,IV]
 ·simp only[rL',aa,simprocAttr,ho,IV,h4]
/-! ### TQ -/
def qB(c:List Int)(a:Int)(b:Int):Int:=c.foldl (fun b k=>max b (a-k)) b
def GD(c:List Int):Int:=c.foldl (fun b a=>qB c a b) 0
theorem zW(a M:Int):∀(c:List Int) (b:Int),(qB c a b<=M)↔(b<=M/\∀k∈c,a-k<=M)
 |[],b=>by simp[qB]
 |k::r,b=>by
  have ih:=zW a M r (max b (a-k));simp only[qB,gP]at ih⊢;rw[ih];simp only[aQ,forall_eq_or_imp];constructor
  ·rintro⟨h1,h2⟩
   exact⟨by omega,by omega,h2⟩
  ·rintro⟨h1,h2,h3⟩
   exact⟨by omega,h3⟩
theorem tU(M:Int)(c:List Int):∀(d:List Int) (b:Int),(d.foldl (fun b a=>qB c a b) b<=M)↔(b<=M/\∀a∈d,∀k∈c,a-k<=M)
 |[],b=>by simp
 |a::r,b=>by
  have ih:=tU M c r (qB c a b);simp only[gP,aQ,forall_eq_or_imp];rw[ih,zW];constructor
  ·rintro⟨⟨h1,h2⟩,h3⟩
   exact⟨h1,h2,h3⟩
  ·rintro⟨h1,h2,h3⟩
   exact⟨⟨h1,h2⟩,h3⟩
theorem pN:∀(l:List Int) (a:Int),l.foldl max a=a\/l.foldl max a∈l
 |[],a=>.inl rfl
 |x::r,a=>by
  rcases pN r (max a x)with h|h
  ·rw[gP,h];rcases Int.le_total a x with h1|h1
   ·exact .inr (by rw[show max a x=x by omega];exact bN ..)
   ·exact .inl (by omega)
  ·exact .inr (bd _ h)
theorem pO:∀(l:List Int) (a:Int),l.foldl min a=a\/l.foldl min a∈l
 |[],a=>.inl rfl
 |x::r,a=>by
  rcases pO r (min a x)with h|h
  ·rw[gP,h];rcases Int.le_total a x with h1|h1
   ·exact .inl (by omega)
   ·exact .inr (by rw[show min a x=x by omega];exact bN ..)
  ·exact .inr (bd _ h)
theorem qK:∀(l:List Int) (a:Int),a<=l.foldl max a/\∀x∈l,x<=l.foldl max a
 |[],a=>⟨J9 _,fun x h=>by simp at h⟩
 |y::r,a=>by
  obtain⟨h1,h2⟩:=qK r (max a y);rw[gP];refine⟨by omega,fun x hx=>?_⟩;rcases aQ.1 hx with rfl|hx
  ·omega
  ·exact h2 x hx
theorem qL:∀(l:List Int) (a:Int),l.foldl min a<=a/\∀x∈l,l.foldl min a<=x
 |[],a=>⟨J9 _,fun x h=>by simp at h⟩
 |y::r,a=>by
  obtain⟨h1,h2⟩:=qL r (min a y);rw[gP];refine⟨by omega,fun x hx=>?_⟩;rcases aQ.1 hx with rfl|hx
  ·omega
  ·exact h2 x hx
theorem BF(c:List Int):GD c=zp c:=by
 cases c with
 |nil=>rfl
 |cons n r =>
  have e1:mostL (n::r)=(n::r).foldl max n:=rfl;have e2:leastL (n::r)=(n::r).foldl min n:=rfl;have a1:=qK (n::r) n;have a2:=qL (n::r) n;have m1:mostL (n::r)∈n::r:=by
   rw[e1];rcases pN (n::r) n with h|h
   ·rw[h];exact bN ..
   ·exact h
  have m2:leastL (n::r)∈n::r:=by
   rw[e2];rcases pO (n::r) n with h|h
   ·rw[h];exact bN ..
   ·exact h
  rw[<-e1]at a1;rw[<-e2]at a2;show GD (n::r)=mostL (n::r)-leastL (n::r);apply Int.le_antisymm
  ·refine(tU _ _ _ _).2 ⟨by have:=a1.1;have:=a2.1;omega,fun a ha k hk=>?_⟩;have:=a1.2 a ha;have:=a2.2 k hk;omega
  ·exact((tU (GD (n::r)) (n::r) (n::r) 0).1 (J9 _)).2 _ m1 _ m2
end
end
section
structure wC(T:cK):Prop where
 Mj:Std T 158 f158
 oB:Std T 155 f155
 JT:Std T 174 f174
 Rf:Std T 177 f177
section
variable{T:cK}
set_option maxHeartbeats 4000000 in
theorem It(S:wC T)(s:bc)(t:State)(load:Int)(hn:s.nodes.length<=2^28)(ht:t.pods.length<=2^29)(i:Nat)(z:Int)(Qr:(ea s)[i]? =some z)(hp:Hl)(nx:Nat)
    (b0:ah hp 0=.var [.pv (.slice (s.nodes.map bC)),.pv (.slice (s.aT.map bO)),.pv (.slice (s.pods.map aK))]) (b1:ah hp 1=.var [.pv (.slice (t.pods.map aK)),.pv (.int .i64 t.pre),.pv (.int .i64 t.fe)])
    (Q:Exit->St->Prop) (o:Int)
    (bS:∀fr,look fr 2=.pv (.int .i64 load)->look fr 3=.ptr 0 0 0->look fr 4=.ptr 1 0 0->look fr 7=.pv (.slice ((ea s).map cD))->look fr 8=.pv (.int .i64 o)->look fr 9=.pv (.int .i64 i)->Q (.exit 2) ⟨fr,hp,nx⟩) :
    ∀(rest:List Int) (k:Nat) (acc:Int),(ea s).drop k=rest->k<=(ea s).length->qB (rest.map fun y=>((fN s load y t.pods:Nat):Int)) ((fN s load z t.pods:Nat):Int) acc=o->∀(fr:List (Nat×AV)),
     look fr 2=.pv (.int .i64 load)->look fr 3=.ptr 0 0 0->look fr 4=.ptr 1 0 0->look fr 7=.pv (.slice ((ea s).map cD))->look fr 8=.pv (.int .i64 acc)->look fr 9=.pv (.int .i64 i)->look fr 10=.pv (.int .i64 k)->Wp T false (.loop yf) ⟨fr,hp,nx⟩ Q:=by
 have Tv:(ea s).length<=2^28:=by
  have:=eU (s.nodes.map Node.bW);rw[al]at this;exact cG this hn
 have k1:=wK S.JT S.oB s t load z (by omega) ht;simp only[aF,aw]at k1;intro rest;induction rest with
 |nil =>
  intro k acc hd hk ho fr h2 h3 h4 h7 h8 h9 h10;have hlen:=drop_nil hd hk;rw[az,aY yf.eq_1];simp only[rL',aa,simprocAttr,h2,h3,h4,h7,h8,h9,h10,hlen,aP];refine bS _ ?_ ?_ ?_ ?_ ?_ ?_
  all_goals try simp only[aj,Nat.reduceEqDiff,h2,h3,h4,h7,h9]
  rw[h8,<-ho];rfl
 |cons y r ih =>
  intro k acc hd hk ho fr h2 h3 h4 h7 h8 h9 h10;obtain⟨aN,hlt,hw,dh,Qm,Bp⟩:=drop_cons hd (by omega);have k2:=wK S.JT S.oB s t load y (by omega) ht;simp only[aF,aw]at k2;have ha:=lN s load z t.pods;have hb:=lN s load y t.pods;have Qq:IntKind.i64.wrap (((fN s load z t.pods:Nat):Int)-((fN s load y t.pods:Nat):Int))=((fN s load z t.pods:Nat):Int)-((fN s load y t.pods:Nat):Int):=by rw[dS] <;>omega
  simp only[aX,qB,gP]at ho;rw[az,aY yf.eq_1];simp only[rL',aa,simprocAttr,h2,h3,h4,h7,h8,h9,h10,hlt];refine(ef rfl).2 ?_;by_cases c1:acc<((fN s load z t.pods:Nat):Int)-((fN s load y t.pods:Nat):Int)
  ·rw[show max acc (((fN s load z t.pods:Nat):Int)-((fN s load y t.pods:Nat):Int))=((fN s load z t.pods:Nat):Int)-((fN s load y t.pods:Nat):Int) by omega]at ho;simp only[rL',aa,simprocAttr,h2,h3,h4,h7,h8,h9,h10,b0,b1,Qr,aN,cD,k1.cm,k2.cm,Qq,c1,hw];refine ih (k+1) _ dh Qm ho _ ?_ ?_ ?_ ?_ ?_ ?_ ?_
   all_goals try simp only[aj,Nat.reduceEqDiff,h2,h3,h4,h7,h9]
  ·rw[show max acc (((fN s load z t.pods:Nat):Int)-((fN s load y t.pods:Nat):Int))=acc by omega]at ho;simp only[rL',aa,simprocAttr,h2,h3,h4,h7,h8,h9,h10,b0,b1,Qr,aN,cD,k1.cm,k2.cm,Qq,c1,hw];refine ih (k+1) _ dh Qm ho _ ?_ ?_ ?_ ?_ ?_ ?_ ?_
   all_goals try simp only[aj,Nat.reduceEqDiff,h2,h3,h4,h7,h8,h9]
set_option maxHeartbeats 4000000 in
theorem FO(S:wC T)(s:bc)(t:State)(load:Int)(hn:s.nodes.length<=2^28)(ht:t.pods.length<=2^29)(hp:Hl)(nx:Nat)
    (b0:ah hp 0=.var [.pv (.slice (s.nodes.map bC)),.pv (.slice (s.aT.map bO)),.pv (.slice (s.pods.map aK))]) (b1:ah hp 1=.var [.pv (.slice (t.pods.map aK)),.pv (.int .i64 t.pre),.pv (.int .i64 t.fe)])
    (Q:Exit->St->Prop) (o:Int) (bS:∀fr,look fr 8=.pv (.int .i64 o)->Q (.exit 0) ⟨fr,hp,nx⟩) :
    ∀(rest:List Int) (i:Nat) (acc:Int),(ea s).drop i=rest->i<=(ea s).length->(rest.map fun y=>((fN s load y t.pods:Nat):Int)).foldl (fun b a=>qB (oi s load t.pods) a b) acc=o->∀(fr:List (Nat×AV)),
     look fr 2=.pv (.int .i64 load)->look fr 3=.ptr 0 0 0->look fr 4=.ptr 1 0 0->look fr 7=.pv (.slice ((ea s).map cD))->look fr 8=.pv (.int .i64 acc)->look fr 9=.pv (.int .i64 i)->Wp T false (.loop yg) ⟨fr,hp,nx⟩ Q:=by
 have Tv:(ea s).length<=2^28:=by
  have:=eU (s.nodes.map Node.bW);rw[al]at this;exact cG this hn
 intro rest;induction rest with
 |nil =>
  intro i acc hd hi ho fr h2 h3 h4 h7 h8 h9;have hlen:=drop_nil hd hi;rw[az,aY yg.eq_1];simp only[rL',aa,simprocAttr,h2,h3,h4,h7,h8,h9,hlen,aP];refine bS _ ?_
  all_goals try simp only[aj,Nat.reduceEqDiff,]
  rw[h8,<-ho];rfl
 |cons z r ih =>
  intro i acc hd hi ho fr h2 h3 h4 h7 h8 h9;obtain⟨aN,hlt,hw,dh,cW,Bp⟩:=drop_cons hd (by omega);simp only[aX,gP]at ho;rw[az,aY yg.eq_1];simp only[rL',aa,simprocAttr,h2,h3,h4,h7,h8,h9,hlt];refine It S s t load hn ht i z aN hp nx b0 b1 _ _ (fun fr g2 g3 g4 g7 g8 g9=>?_) (ea s) 0 acc rfl (aO _) rfl _ ?_ ?_ ?_ ?_ ?_ ?_ ?_
  ·simp only[rL',aa,simprocAttr,g9,hw];refine ih (i+1) _ dh cW ho _ ?_ ?_ ?_ ?_ ?_ ?_
   all_goals try simp only[aj,Nat.reduceEqDiff,g2,g3,g4,g7]
   rw[g8];rfl
  all_goals try simp only[aj,Nat.reduceEqDiff,h2,h3,h4,h7,h8,h9]
  rfl
theorem Iu(S:wC T)(s:bc)(t:State)(load:Int)(hn:s.nodes.length<=2^28)(ht:t.pods.length<=2^29):ba T 177 [aF s,aw t,.int .i64 load] (.int .i64 (vA s load t.pods)):=by
 have kz:=G1 S.Mj s hn;simp only[aF]at kz;refine gives S.Rf rfl ?_;simp only[f177,rL',aa,simprocAttr,aF,aw,kz.call];refine FO S s t load hn ht _ _ rfl rfl _ (vA s load t.pods) (fun fr h8=>?_) (ea s) 0 0 rfl (aO _) (BF (oi s load t.pods)) _ rfl rfl rfl rfl rfl rfl;simp only[rL',aa,simprocAttr,h8]
/-! ### QK -/
set_option maxHeartbeats 4000000 in
theorem zr(S:wC T)(s:bc)(t:State)(hn:s.nodes.length<=2^28)(ht:t.pods.length<=2^29)(nY:s.aT.length<=2^29)(hp:Hl)(nx:Nat)
    (b0:ah hp 0=.var [.pv (.slice (s.nodes.map bC)),.pv (.slice (s.aT.map bO)),.pv (.slice (s.pods.map aK))]) (b1:ah hp 1=.var [.pv (.slice (t.pods.map aK)),.pv (.int .i64 t.pre),.pv (.int .i64 t.fe)])
    (Q:Exit->St->Prop) (o:Option (Int×Int))
    (bS:o=none->∀fr,Q (.exit 0) ⟨fr,hp,nx⟩) (dK:∀c a,o=some (c,a)->∀fr,look fr 4=.pv (.int .i64 a)->Q .ret ⟨fr,hp,nx⟩) :
    ∀(rest:List fF) (i:Nat),s.aT.drop i=rest->i<=s.aT.length->dw s t.pods i rest=o->∀(fr:List (Nat×AV)),
     look fr 2=.ptr 0 0 0->look fr 3=.ptr 1 0 0->look fr 5=.pv (.int .i64 i)->Wp T false (.loop yh) ⟨fr,hp,nx⟩ Q:=by
 intro rest;induction rest with
 |nil =>
  intro i hd hi ho fr h2 h3 h5;have hlen:=drop_nil hd hi;rw[az,aY yh.eq_1];simp only[rL',aa,simprocAttr,h2,h3,h5,b0,hlen,aP];exact bS ho.symm _
 |cons l r ih =>
  intro i hd hi ho fr h2 h3 h5;obtain⟨aN,hlt,hw,dh,cW,hb⟩:=drop_cons hd (by omega);have k:=Iu S s t l.id hn ht;simp only[aF,aw]at k;simp only[dw]at ho;rw[az,aY yh.eq_1];simp only[rL',aa,simprocAttr,h2,h3,h5,b0,hlt];refine(ef rfl).2 ?_;by_cases c1:0<l.sq
  ·by_cases c2:l.sq<vA s l.id t.pods
   ·rw[aW ⟨c1,c2⟩]at ho;simp only[rL',aa,simprocAttr,h2,h3,h5,b0,b1,aN,bO,k.cm,c1,c2];refine dK 11 i ho.symm _ ?_
    all_goals try simp only[aj,Nat.reduceEqDiff,h5]
   ·rw[ar fun h=>c2 h.2]at ho;simp only[rL',aa,simprocAttr,h2,h3,h5,b0,b1,aN,bO,k.cm,c1,c2,hw];refine ih (i+1) dh cW ho _ ?_ ?_ ?_
    all_goals try simp only[aj,Nat.reduceEqDiff,h2,h3]
  ·rw[ar fun h=>c1 h.1]at ho;simp only[rL',aa,simprocAttr,h2,h3,h5,b0,b1,aN,bO,k.cm,c1,hw];refine ih (i+1) dh cW ho _ ?_ ?_ ?_
   all_goals try simp only[aj,Nat.reduceEqDiff,h2,h3]
theorem CQ(S:wC T)(JV:Std T 178 f178)(s:bc)(t:State)(hn:s.nodes.length<=2^28)(ht:t.pods.length<=2^29)(nY:s.aT.length<=2^29):ba T 178 [aF s,aw t] (.int .i64 (IV (dw s t.pods 0 s.aT))):=by
 refine gives JV rfl ?_;simp only[f178,rL',aa,simprocAttr,aF,aw];refine zr S s t hn ht nY _ _ rfl rfl _ (dw s t.pods 0 s.aT) (fun ho fr=>?_) (fun c a ho fr h4=>?_) s.aT 0 rfl (aO _) rfl _ rfl rfl rfl
 ·simp only[rL',aa,simprocAttr,ho,IV]
 ·simp only[rL',aa,simprocAttr,ho,IV,h4]
end
end
section
theorem my(s:bc)(pods:List dm):∀(l:List Node) (i:Nat) (c a:Int),dR s pods i l=some (c,a)->c≠0
 |[],i,c,a,h=>by simp[dR]at h
 |n::r,i,c,a,h=>by
  unfold dR at h;split at h
  ·exact my s pods r (i+1) c a h
  ·rename_i hc;simp only[ai,aZ]at h;rw[<-h.1];exact hc
theorem iS(ls:List fF):∀(l prev:List dm) (c a:Int),dN ls prev l=some (c,a)->c=10/\0<=a
 |[],prev,c,a,h=>by simp[dN]at h
 |p::r,prev,c,a,h=>by
  unfold dN at h;split at h
  ·simp only[ai,aZ]at h;omega
  ·exact iS ls r _ c a h
theorem iC(s:bc)(pods:List dm):∀(l:List fF) (i:Nat) (c a:Int),dw s pods i l=some (c,a)->c=11/\0<=a
 |[],i,c,a,h=>by simp[dw]at h
 |n::r,i,c,a,h=>by
  unfold dw at h;split at h
  ·simp only[ai,aZ]at h;omega
  ·exact iC s pods r (i+1) c a h
theorem n9(pods:List dm):∀(l:List fF) (i:Nat) (c a:Int),eL pods i l=some (c,a)->c≠0
 |[],i,c,a,h=>by simp[eL]at h
 |n::r,i,c,a,h=>by
  unfold eL at h;split at h
  ·simp only[ai,aZ]at h;omega
  ·split at h
   ·simp only[ai,aZ]at h;omega
   ·exact n9 pods r (i+1) c a h
def oW(s:bc)(x:Spec)(t:State):Int×Int:=match dR s t.pods 0 s.nodes with
 |some q=>q
 |none=>match dN s.aT [] t.pods with
  |some q=>q
  |none=>match dw s t.pods 0 s.aT with
   |some q=>q
   |none=>match eL t.pods 0 s.aT with
    |some q=>q
    |none=>if nO x t=true then(15,-1)else(0,-1)
theorem oX(s:bc)(x:Spec)(t:State):(gG (qo s x t)=true/\(oW s x t).1=0)\/(gG (qo s x t)=false/\(oW s x t).1=ng (qo s x t)/\(oW s x t).1≠0):=by
 unfold oW qo Aa;cases h1:dR s t.pods 0 s.nodes with
 |some q=>exact .inr ⟨rfl,rfl,my s t.pods _ _ q.1 q.2 h1⟩
 |none =>
  cases h2:dN s.aT [] t.pods with
  |some q=>exact .inr ⟨rfl,rfl,by have:=(iS s.aT _ _ q.1 q.2 h2).1;dsimp only;omega⟩
  |none =>
   cases h3:dw s t.pods 0 s.aT with
   |some q=>exact .inr ⟨rfl,rfl,by have:=(iC s t.pods _ _ q.1 q.2 h3).1;dsimp only;omega⟩
   |none =>
    cases h4:eL t.pods 0 s.aT with
    |some q=>exact .inr ⟨rfl,rfl,n9 t.pods _ _ q.1 q.2 h4⟩
    |none =>
     cases h5:nO x t with
     |true=>exact .inr ⟨rfl,rfl,by decide⟩
     |false=>exact .inl ⟨rfl,rfl⟩
structure La(T:cK):Prop where
 r:wC T
 s6:D4 T
 JQ:Std T 169 f169
 JR:Std T 172 f172
 JS:Std T 173 f173
 Ap:Std T 176 f176
 JV:Std T 178 f178
 JW:Std T 179 f179
 w7:Std T 180 f180
 qT:Std T 154 f154
 Ol:Std T 184 f184
section
variable{T:cK}
set_option maxHeartbeats 4000000 in
theorem E6(S:La T)(s:bc)(x:Spec)(t:State)(hn:s.nodes.length<=2^28)(nY:s.aT.length<=2^29)(ht:t.pods.length<=2^29)(hw:∀p∈t.pods,p.wf):ba T 184 [aF s,bg x,aw t] (.tuple [.int .i64 (oW s x t).1,.int .i64 (oW s x t).2]):=by
 have k1:=Il S.s6 S.JQ s t (by omega) (by omega) hw;have k2:=El S.JR S.w7 S.qT s t nY ht;have k3:=CQ S.r S.JV s t hn ht nY;have k4:=BP S.JS S.Ap s t (by omega) (by omega);have k5:=FW S.JW x t;simp only[aF,bg,aw]at k1 k2 k3 k4 k5;refine gives S.Ol rfl ?_;unfold oW;cases h1:dR s t.pods 0 s.nodes with
 |some q =>
  obtain⟨c,a⟩:=q;have hc:=my s t.pods _ _ c a h1;rw[h1]at k1;simp only[jO]at k1;simp only[f184,rL',aa,simprocAttr,aF,bg,aw,k1.call,hc]
 |none =>
  rw[h1]at k1;simp only[jO]at k1;cases h2:dN s.aT [] t.pods with
  |some q =>
   obtain⟨c,a⟩:=q;obtain⟨rfl,ha⟩:=iS s.aT _ _ c a h2;rw[h2]at k2;simp only[IV]at k2;simp only[f184,rL',aa,simprocAttr,aF,bg,aw,k1.call,k2.call,ha]
  |none =>
   rw[h2]at k2;simp only[IV]at k2;cases h3:dw s t.pods 0 s.aT with
   |some q =>
    obtain⟨c,a⟩:=q;obtain⟨rfl,ha⟩:=iC s t.pods _ _ c a h3;rw[h3]at k3;simp only[IV]at k3;simp only[f184,rL',aa,simprocAttr,aF,bg,aw,k1.call,k2.call,k3.call,ha]
   |none =>
    rw[h3]at k3;simp only[IV]at k3;cases h4:eL t.pods 0 s.aT with
    |some q =>
     obtain⟨c,a⟩:=q;have hc:=n9 t.pods _ _ c a h4;rw[h4]at k4;simp only[jO]at k4;simp only[f184,rL',aa,simprocAttr,aF,bg,aw,k1.call,k2.call,k3.call,k4.call,hc]
    |none =>
     rw[h4]at k4;simp only[jO]at k4;cases h5:nO x t <;>
     ·rw[h5]at k5;simp only[f184,rL',aa,simprocAttr,aF,bg,aw,k1.call,k2.call,k3.call,k4.call,k5.call,bA]
end
end
section
def mA(c:Int):Prop:=1<=c/\c<=17
theorem oQ(s:bc)(pods:List dm):∀(l:List Node) (i:Nat) (c a:Int),dR s pods i l=some (c,a)->mA c
 |[],i,c,a,h=>by simp[dR]at h
 |n::r,i,c,a,h=>by
  unfold dR at h;split at h
  ·exact oQ s pods r (i+1) c a h
  ·rename_i hc;simp only[ai,aZ]at h;rw[<-h.1];exact((oP s pods n.id).resolve_left hc).2
theorem pI(pods:List dm):∀(l:List fF) (i:Nat) (c a:Int),eL pods i l=some (c,a)->mA c
 |[],i,c,a,h=>by simp[eL]at h
 |n::r,i,c,a,h=>by
  unfold eL at h;unfold mA;split at h
  ·simp only[ai,aZ]at h;omega
  ·split at h
   ·simp only[ai,aZ]at h;omega
   ·exact pI pods r (i+1) c a h
theorem CY(s:bc)(x:Spec)(t:State):(oW s x t).1=0\/mA (oW s x t).1:=by
 unfold oW;cases h1:dR s t.pods 0 s.nodes with
 |some q=>exact .inr (oQ s t.pods _ _ q.1 q.2 h1)
 |none =>
  cases h2:dN s.aT [] t.pods with
  |some q=>exact .inr (by have:=(iS s.aT _ _ q.1 q.2 h2).1;unfold mA;dsimp only;omega)
  |none =>
   cases h3:dw s t.pods 0 s.aT with
   |some q=>exact .inr (by have:=(iC s t.pods _ _ q.1 q.2 h3).1;unfold mA;dsimp only;omega)
   |none =>
    cases h4:eL t.pods 0 s.aT with
    |some q=>exact .inr (pI t.pods _ _ q.1 q.2 h4)
    |none =>
     cases h5:nO x t with
     |true=>exact .inr (by unfold mA;decide)
     |false=>exact .inl rfl
theorem vc(s:bc)(x:Spec)(t:State)(m:Move)(c:Int)(h:bP s x t m=.inl c):mA c:=by
 unfold bP at h;unfold mA;split at h
 ·simp at h;omega
 ·split at h
  ·simp at h;omega
  ·split at h
   ·simp at h;omega
   ·split at h
    ·simp at h;omega
    ·rename_i hi qW ho;obtain⟨j,hj⟩:∃j:Nat,bw m.eP 0 t.pods=(j:Int):=⟨(bw m.eP 0 t.pods).toNat,by omega⟩;obtain⟨p,g1,g2,g3⟩:=iA hj;rw[hj]at h;simp only[bY,g1]at h;by_cases k2:m.kind=2
     ·rw[aW k2]at h;split at h
      ·simp at h;omega
      ·simp at h
     ·rw[ar k2]at h;split at h
      ·split at h
       ·simp at h;omega
       ·split at h
        ·simp at h;omega
        ·simp at h
      ·split at h
       ·rename_i k4;have P8:¬bw m.over 0 t.pods<0:=fun hh=>ho ⟨k4,hh⟩;obtain⟨k,hk⟩:∃k:Nat,bw m.over 0 t.pods=(k:Int):=⟨(bw m.over 0 t.pods).toNat,by omega⟩;obtain⟨q,f1,f2,f3⟩:=iA hk;rw[hk]at h;simp only[bY,f1]at h;split at h
        ·simp at h;omega
        ·split at h
         ·simp at h;omega
         ·split at h
          ·simp at h;omega
          ·simp at h
       ·split at h
        ·simp at h;omega
        ·simp at h
theorem GR(s:bc)(x:Spec)(t:State)(m:Move)(c:Int)(h:oq s x t m=.inl c):mA c:=by
 unfold oq at h;split at h
 ·rename_i c' hm;simp only[Sum.inl.injEq]at h;subst h;exact vc s x t m _ hm
 ·rename_i u hm;split at h
  ·split at h
   ·simp at h
   ·rename_i hw;simp only[Sum.inl.injEq]at h;subst h;rcases oX s x u with⟨h1,h2⟩|⟨h1,h2,h3⟩
    ·exact absurd h1 hw
    ·rw[<-h2];exact(CY s x u).resolve_left h3
  ·simp only[Sum.inl.injEq]at h;subst h;unfold mA
   decide
def de:Int ⊕ State->PV
 | .inl c=>.tuple [aw eB,.int .i64 c]
 | .inr u=>.tuple [aw u,.int .i64 0]
section
variable{T:cK}
structure Lb(T:cK):Prop where
 w:La T
 JU:Std T 175 f175
 nT:Std T 167 f167
 Ok:Std T 181 f181
set_option maxHeartbeats 4000000 in
theorem M9(S:Lb T)(s:bc)(x:Spec)(t:State)(m:Move)(km:ba T 166 [aF s,bg x,aw t,dG m] (de (bP s x t m)))(hn:s.nodes.length<=2^28)(nY:s.aT.length<=2^29)(hl:t.pods.length<=2^29)(hx:∀w∈x.b9,w.wf)(ht:∀p∈t.pods,p.wf)(hm:m.wf) :
    ba T 181 [aF s,bg x,aw t,dG m] (de (oq s x t m)):=by
 have kp:=Kw S.JU S.nT t m.eP m.over hl;refine gives S.Ok rfl ?_;unfold oq;cases J4:bP s x t m with
 |inl c =>
  have hc:=vc s x t m c J4;have RK:¬c=0:=by unfold mA at hc;omega
  rw[J4]at km;simp only[de,eB,aF,bg,aw,dG,bK,aC]at km;simp only[f181,rL',aa,simprocAttr,aF,bg,aw,dG,bK,km.call,de,eB,aC,RK]
 |inr u =>
  rw[J4]at km;have UM:=(qi s x t u m J4).2;have kw:=E6 S.w s x u hn nY (by omega) (zb hx ht hm J4);simp only[de,aF,bg,aw,dG,bK]at km kp kw;dsimp only;have fin:xf t m=true->ba T 175 [.agg [.slice (t.pods.map aK),.int .i64 t.pre,.int .i64 t.fe],.int .i64 m.eP,.int .i64 m.over] (.bool (AR t m.eP m.over)):=fun _=>kp;unfold xf;by_cases k4:m.kind=4
  ·have d4:=bJ k4;rw[aW k4];cases P2:AR t m.eP m.over with
   |false =>
    rw[P2]at kp;simp only[f181,rL',aa,simprocAttr,aF,bg,aw,dG,bK,km.call,kp.call,de,eB,aC,d4,bA]
   |true =>
    rw[P2]at kp;rcases oX s x u with⟨h1,h2⟩|⟨h1,h2,h3⟩
    ·rw[h2]at kw;rw[h1];simp only[f181,rL',aa,simprocAttr,aF,bg,aw,dG,bK,km.call,kp.call,kw.call,de,d4]
    ·rw[h2]at kw h3;rw[h1];simp only[f181,rL',aa,simprocAttr,aF,bg,aw,dG,bK,km.call,kp.call,kw.call,de,eB,aC,d4,h3,bA]
  ·rw[ar k4];rcases oX s x u with⟨h1,h2⟩|⟨h1,h2,h3⟩
   ·rw[h2]at kw;rw[h1];simp only[f181,rL',aa,simprocAttr,aF,bg,aw,dG,bK,km.call,kp.call,kw.call,de,k4]
   ·rw[h2]at kw h3;rw[h1];simp only[f181,rL',aa,simprocAttr,aF,bg,aw,dG,bK,km.call,kp.call,kw.call,de,eB,aC,k4,h3,bA]
end
end
section
section
variable{T:cK}
end
end
section
def nU(l:List Int):List Int:=l.foldl (fun a n=>rp n a) []
theorem Ay(x:Int):∀(l a:List Int),x∈l.foldl (fun a n=>rp n a) a↔x∈a\/x∈l
 |[],a=>by simp
 |n::r,a=>by
  rw[gP,Ay x r,I8,aQ];constructor
  ·rintro((h|h)|h)
   ·exact .inl h
   ·exact .inr (.inl h)
   ·exact .inr (.inr h)
  ·rintro(h|h|h)
   ·exact .inl (.inl h)
   ·exact .inl (.inr h)
   ·exact .inr h
theorem Az(x:Int)(l:List Int):x∈nU l↔x∈l:=by
 unfold nU;rw[Ay];simp
theorem DJ:∀(l a:List Int),(l.foldl (fun a n=>rp n a) a).length<=a.length+l.length
 |[],a=>by simp
 |n::r,a=>by
  have h1:=DJ r (rp n a);have h2:=zg n a;rw[gP,ay];omega
theorem tz(l:List Int):(nU l).length<=l.length:=by
 have:=DJ l [];simpa[nU]using this
def zz(v:AV)(l:List Int):Prop:=(l=[]/\v=.bu)\/v=.pv (.slice (l.map cD))
theorem zz.len{v:AV}{l:List Int}(h:zz v l)(H:Hp):aS H v=some l.length:=by
 rcases h with⟨rfl,rfl⟩|rfl
 ·rfl
 ·simp only[aS,al]
theorem zz.get{v:AV}{l:List Int}{i:Nat}{q:Int}(h:zz v l)(hq:l[i]? =some q):v=.pv (.slice (l.map cD)):=by
 rcases h with⟨rfl,rfl⟩|h
 ·simp at hq
 ·exact h
theorem zz.pure{v:AV}{l:List Int}(h:zz v l)(p:PV):ca [v,.pv p]=some [.slice (l.map cD),p]:=by
 rcases h with⟨rfl,rfl⟩|rfl <;>rfl
def mg(s:bc)(x:Spec)(t:State):List (Move×State):=outs s x t (jW (nU (t.pods.map dm.id)) (nU (s.nodes.map Node.id)))
theorem tR{s:bc}{x:Spec}{t u:State}{m:Move}:(m,u)∈mg s x t↔oq s x t m=.inr u:=by
 unfold mg outs;rw[List.mem_filterMap];constructor
 ·rintro⟨m',_,h⟩
  exact(pq.1 h).2
 ·intro h;refine⟨m,?_,pq.2 ⟨rfl,h⟩⟩;have:=uc h;simp only[qD,jW,cq,zx,cw,jy]at this;simp only[jW,cq,zx,cw,Az];exact this
section
variable{T:cK}
set_option maxRecDepth 100000 in
set_option maxHeartbeats 16000000 in
theorem KM(Aq:Std T 189 f189)(t:State)(hl:t.pods.length<=2^28){fr0:List (Nat×AV)}{hp:Hl}{nx:Nat}(b2:ah hp 2=.var [.pv (.slice (t.pods.map aK)),.pv (.int .i64 t.pre),.pv (.int .i64 t.fe)])(Q:Exit->St->Prop)
    (bS:∀fr,Kp [3,4,5,9] fr0 fr->zz (look fr 8) (nU (t.pods.map dm.id))->Q (.exit 0) ⟨fr,hp,nx⟩) :
    ∀(rest:List dm) (i:Nat) (acc:List Int),t.pods.drop i=rest->i<=t.pods.length->(rest.map dm.id).foldl (fun a n=>rp n a) acc=nU (t.pods.map dm.id)->acc.length<=i->∀(fr:List (Nat×AV)),Kp [3,4,5,9] fr0 fr->look fr 5=.ptr 2 0 0->look fr 10=.pv (.int .i64 i)->zz (look fr 8) acc->Wp T false (.loop yi) ⟨fr,hp,nx⟩ Q:=by
 intro rest;induction rest with
 |nil =>
  intro i acc hd hi ho ha fr hK g5 te h8;have hlen:=drop_nil hd hi;simp only[aC,List.foldl_nil]at ho;subst ho;rw[az,aY yi.eq_1];simp only[rL',aa,simprocAttr,g5,b2,te,hlen,aP,al];refine bS _ ?_ ?_
  ·repeat (refine Kp.put (by decide) ?_)
   exact hK
  ·simp only[aj,Nat.reduceEqDiff];exact h8
 |cons p r ih =>
  intro i acc hd hi ho ha fr hK g5 te h8;obtain⟨aN,hlt,hw,dh,cW,hb⟩:=drop_cons hd (by omega);have k:=B5 Aq acc p.id (by omega);have DI:=h8.pure (.int .i64 p.id);generalize RF:look fr 8=v8 at h8 DI;obtain⟨hr,wR,oo,hc⟩:=k;rw[az,aY yi.eq_1];simp only[rL',aa,simprocAttr,g5,b2,te,hlt,aN,aK,RF];rw[l6 hr DI hc,wR,rn];simp only[rL',aa,simprocAttr,te,hw];refine ih (i+1) (rp p.id acc) dh cW (by rw[<-ho];rfl) (by have:=zg p.id acc;omega) _ ?_ ?_ ?_ ?_
  ·repeat (refine Kp.put (by decide) ?_)
   exact hK
  ·all_goals try simp only[aj,Nat.reduceEqDiff,g5]
  ·all_goals try simp only[aj,Nat.reduceEqDiff,]
  ·simp only[aj,Nat.reduceEqDiff];exact .inr rfl
set_option maxRecDepth 100000 in
set_option maxHeartbeats 16000000 in
theorem KN(Aq:Std T 189 f189)(s:bc)(hl:s.nodes.length<=2^28){fr0:List (Nat×AV)}{hp:Hl}{nx:Nat}(b0:ah hp 0=.var [.pv (.slice (s.nodes.map bC)),.pv (.slice (s.aT.map bO)),.pv (.slice (s.pods.map aK))])(Q:Exit->St->Prop)
    (bS:∀fr,Kp [3,4,5,8] fr0 fr->zz (look fr 9) (nU (s.nodes.map Node.id))->Q (.exit 2) ⟨fr,hp,nx⟩) :
    ∀(rest:List Node) (i:Nat) (acc:List Int),s.nodes.drop i=rest->i<=s.nodes.length->(rest.map Node.id).foldl (fun a n=>rp n a) acc=nU (s.nodes.map Node.id)->acc.length<=i->∀(fr:List (Nat×AV)),Kp [3,4,5,8] fr0 fr->look fr 3=.ptr 0 0 0->look fr 11=.pv (.int .i64 i)->zz (look fr 9) acc->Wp T false (.loop yj) ⟨fr,hp,nx⟩ Q:=by
 intro rest;induction rest with
 |nil =>
  intro i acc hd hi ho ha fr hK g5 te h8;have hlen:=drop_nil hd hi;simp only[aC,List.foldl_nil]at ho;subst ho;rw[az,aY yj.eq_1];simp only[rL',aa,simprocAttr,g5,b0,te,hlen,aP,al];refine bS _ ?_ ?_
  ·repeat (refine Kp.put (by decide) ?_)
   exact hK
  ·simp only[aj,Nat.reduceEqDiff];exact h8
 |cons p r ih =>
  intro i acc hd hi ho ha fr hK g5 te h8;obtain⟨aN,hlt,hw,dh,cW,hb⟩:=drop_cons hd (by omega);have k:=B5 Aq acc p.id (by omega);have DI:=h8.pure (.int .i64 p.id);generalize RF:look fr 9=v8 at h8 DI;obtain⟨hr,wR,oo,hc⟩:=k;rw[az,aY yj.eq_1];simp only[rL',aa,simprocAttr,g5,b0,te,hlt,aN,bC,RF];rw[l6 hr DI hc,wR,rn];simp only[rL',aa,simprocAttr,te,hw];refine ih (i+1) (rp p.id acc) dh cW (by rw[<-ho];rfl) (by have:=zg p.id acc;omega) _ ?_ ?_ ?_ ?_
  ·repeat (refine Kp.put (by decide) ?_)
   exact hK
  ·all_goals try simp only[aj,Nat.reduceEqDiff,g5]
  ·all_goals try simp only[aj,Nat.reduceEqDiff,]
  ·simp only[aj,Nat.reduceEqDiff];exact .inr rfl
section
variable{a8 a9:AV}{pods nodes:List Int}{fin:List Move}{hp0:Hl}{Q:Exit->St->Prop}
set_option maxRecDepth 100000 in
set_option maxHeartbeats 16000000 in
theorem KO{p n:Int}{jp jn:Nat}(mJ:pods.length<=2^29)(qa:fin.length<=2^29)(h8:zz a8 pods)(h9:zz a9 nodes)(OV:pods[jp]? =some p)(Ti:nodes[jn]? =some n){fr0:List (Nat×AV)}(g8:look fr0 8=a8)(g9:look fr0 9=a9)(ph:look fr0 14=.pv (.int .i64 jp))(tf:look fr0 15=.pv (.int .i64 jn))
    (bS:∀fr hp nx,Kp [3,4,5,8,9,13,14,15] fr0 fr->3<=nx->fo (look fr 12) hp 4 (fin.map bK) 3 nx->(∀k,k<3->ah hp k=ah hp0 k)->Q (.exit 10) ⟨fr,hp,nx⟩) :
    ∀(rest:List Int) (i:Nat) (pre:List Move),pods.drop i=rest->i<=pods.length->pre++rest.map (fun q=>(⟨4,p,n,q⟩:Move))=fin->∀(fr:List (Nat×AV)) (hp:Hl) (nx:Nat),Kp [3,4,5,8,9,13,14,15] fr0 fr ->
     look fr 16=.pv (.int .i64 i)->3<=nx->fo (look fr 12) hp 4 (pre.map bK) 3 nx->(∀k,k<3->ah hp k=ah hp0 k)->Wp T false (.loop yk) ⟨fr,hp,nx⟩ Q:=by
 intro rest;induction rest with
 |nil =>
  intro i pre hd hi ho fr hp nx hK tv h3 hO hs;have hlen:=drop_nil hd hi;simp only[aC,bG]at ho;subst ho;have c8:=(hK 8 (by decide)).trans g8;have l8:=h8.len (ah hp);rw[az,aY yk.eq_1];simp only[rL',aa,simprocAttr,c8,l8,tv,hlen,aP];refine bS _ _ _ ?_ h3 ?_ hs
  ·repeat (refine Kp.put (by decide) ?_)
   exact hK
  ·simp only[aj,Nat.reduceEqDiff];exact hO
 |cons q r ih =>
  intro i pre hd hi ho fr hp nx hK tv h3 hO hs;obtain⟨aN,hlt,hw,dh,cW,hb⟩:=drop_cons hd (by omega);have e8:=h8.get aN;have e9:=h9.get Ti;have c8:=((hK 8 (by decide)).trans g8).trans e8;have c9:=((hK 9 (by decide)).trans g9).trans e9;have BJ:=(hK 14 (by decide)).trans ph;have TU:=(hK 15 (by decide)).trans tf;have lh:pre.length+1<=2^30:=by have:=da List.length ho;rw[aG]at this;omega
  obtain⟨v',W,k,a1,a2,a3⟩:=hO.mh h3 (bK ⟨4,p,n,q⟩) (by rw[al];exact lh);simp only[bK]at a1 a3;generalize mS:look fr 12=NH at hO a1;rw[az,aY yk.eq_1];simp only[rL',aa,simprocAttr,c8,tv,hlt,al];refine(cy rfl).2 ?_;simp only[rL',aa,simprocAttr,c8,c9,BJ,TU,tv,aN,OV,Ti,cD,mS,bt,chunk,cn,bL,bV,dV,a1,hw];refine ih (i+1) (pre++[⟨4,p,n,q⟩]) dh cW (by rw[<-ho];simp) _ _ _ ?_ ?_ (by omega) ?_ (fun k hk=>?_)
  ·repeat (refine Kp.put (by decide) ?_)
   exact hK
  ·all_goals try simp only[aj,Nat.reduceEqDiff,]
  ·simp only[aj,Nat.reduceEqDiff];simpa only[bh,aX,aC,bK]using a3
  ·exact(a2 k hk).trans (hs k hk)
set_option maxRecDepth 100000 in
set_option maxHeartbeats 16000000 in
theorem KP{kind p:Int}{jp:Nat}(mJ:pods.length<=2^29)(nr:nodes.length<=2^29)(qa:fin.length<=2^29)(h8:zz a8 pods)(h9:zz a9 nodes)(OV:pods[jp]? =some p){fr0:List (Nat×AV)}(g8:look fr0 8=a8)(g9:look fr0 9=a9)(pg:look fr0 13=.pv (.int .i64 kind))(ph:look fr0 14=.pv (.int .i64 jp))
    (bS:∀fr hp nx,Kp [3,4,5,8,9,13,14] fr0 fr->3<=nx->fo (look fr 12) hp 4 (fin.map bK) 3 nx->(∀k,k<3->ah hp k=ah hp0 k)->Q (.exit 8) ⟨fr,hp,nx⟩) :
    ∀(rest:List Int) (i:Nat) (pre:List Move),nodes.drop i=rest->i<=nodes.length->pre++rest.flatMap (fun n=>gu kind p n pods)=fin->∀(fr:List (Nat×AV)) (hp:Hl) (nx:Nat),Kp [3,4,5,8,9,13,14] fr0 fr ->
     look fr 15=.pv (.int .i64 i)->3<=nx->fo (look fr 12) hp 4 (pre.map bK) 3 nx->(∀k,k<3->ah hp k=ah hp0 k)->Wp T false (.loop ux) ⟨fr,hp,nx⟩ Q:=by
 intro rest;induction rest with
 |nil =>
  intro i pre hd hi ho fr hp nx hK tf h3 hO hs;have hlen:=drop_nil hd hi;simp only[NN,bG]at ho;subst ho;have c9:=(hK 9 (by decide)).trans g9;have l9:=h9.len (ah hp);rw[az,aY ux.eq_1];simp only[rL',aa,simprocAttr,c9,l9,tf,hlen,aP];refine bS _ _ _ ?_ h3 ?_ hs
  ·repeat (refine Kp.put (by decide) ?_)
   exact hK
  ·simp only[aj,Nat.reduceEqDiff];exact hO
 |cons n r ih =>
  intro i pre hd hi ho fr hp nx hK tf h3 hO hs;obtain⟨aN,hlt,hw,dh,cW,hb⟩:=drop_cons hd (by omega);have e8:=h8.get OV;have e9:=h9.get aN;have d8:=(hK 8 (by decide)).trans g8;have c8:=d8.trans e8;have d9:=(hK 9 (by decide)).trans g9;have c9:=d9.trans e9;have tq:=(hK 13 (by decide)).trans pg;have BJ:=(hK 14 (by decide)).trans ph;rw[eN,<-gm]at ho;have lh:(pre++gu kind p n pods).length<=2^29:=by have:=da List.length ho;rw[aG]at this;omega
  by_cases h4:kind=4
  ·have C8:gu kind p n pods=pods.map fun q=>(⟨4,p,n,q⟩:Move):=by unfold gu;rw[aW h4,h4]
   rw[h4]at tq;rw[az,aY ux.eq_1];simp only[rL',aa,simprocAttr,c9,tf,hlt,al,tq];refine KO (hp0:=hp0) (pods:=pods) (nodes:=nodes) (fin:=pre++gu kind p n pods) mJ lh h8 h9 OV aN (fr0:=_) ?_ ?_ ?_ ?_ (fun fG hp' cC k1 K4 Nv qY=>?_) pods 0 pre rfl (aO _) (by rw[C8]) _ _ _ (fun _ _=>rfl) ?_ h3 ?_ hs
   ·all_goals try simp only[aj,Nat.reduceEqDiff,d8]
   ·all_goals try simp only[aj,Nat.reduceEqDiff,d9]
   ·all_goals try simp only[aj,Nat.reduceEqDiff,BJ]
   ·all_goals try simp only[aj,Nat.reduceEqDiff,tf]
   ·have Km:=k1 15 (by decide);simp only[aj,Nat.reduceEqDiff,tf]at Km;simp only[rL',aa,simprocAttr,Km,hw];refine ih (i+1) _ dh cW ho _ _ _ ?_ ?_ K4 ?_ qY
    ·repeat (refine Kp.put (by decide) ?_)
     refine Kp.trans ?_ k1 (by decide)
     repeat (refine Kp.put (by decide) ?_)
     exact hK
    ·all_goals try simp only[aj,Nat.reduceEqDiff,]
    ·simp only[aj,Nat.reduceEqDiff];exact Nv
   ·all_goals try simp only[aj,Nat.reduceEqDiff,]
    rfl
   ·simp only[aj,Nat.reduceEqDiff];exact hO
  ·have C8:gu kind p n pods=[⟨kind,p,n,0⟩]:=by unfold gu;rw[ar h4]
   rw[C8]at ho lh;have uQ:pre.length+1<=2^30:=by rw[aG,ay,bM]at lh;omega
   obtain⟨v',W,k,a1,a2,a3⟩:=hO.mh h3 (bK ⟨kind,p,n,0⟩) (by rw[al];exact uQ);simp only[bK]at a1 a3;generalize mS:look fr 12=NH at hO a1;rw[az,aY ux.eq_1];simp only[rL',aa,simprocAttr,c9,tf,hlt,al,tq,h4];refine(cy rfl).2 ?_;simp only[rL',aa,simprocAttr,c8,c9,tq,BJ,tf,aN,OV,cD,mS,bt,chunk,cn,bL,bV,dV,a1,hw];refine ih (i+1) (pre++[⟨kind,p,n,0⟩]) dh cW ho _ _ _ ?_ ?_ (by omega) ?_ (fun k hk=>?_)
   ·repeat (refine Kp.put (by decide) ?_)
    exact hK
   ·all_goals try simp only[aj,Nat.reduceEqDiff,]
   ·simp only[aj,Nat.reduceEqDiff];simpa only[bh,aX,aC,bK]using a3
   ·exact(a2 k hk).trans (hs k hk)
set_option maxRecDepth 100000 in
set_option maxHeartbeats 16000000 in
theorem KQ{kind:Int}(mJ:pods.length<=2^29)(nr:nodes.length<=2^29)(qa:fin.length<=2^29)(h8:zz a8 pods)(h9:zz a9 nodes){fr0:List (Nat×AV)}(g8:look fr0 8=a8)(g9:look fr0 9=a9)(pg:look fr0 13=.pv (.int .i64 kind))
    (bS:∀fr hp nx,Kp [3,4,5,8,9,13] fr0 fr->3<=nx->fo (look fr 12) hp 4 (fin.map bK) 3 nx->(∀k,k<3->ah hp k=ah hp0 k)->Q (.exit 6) ⟨fr,hp,nx⟩) :
    ∀(rest:List Int) (i:Nat) (pre:List Move),pods.drop i=rest->i<=pods.length->pre++rest.flatMap (fun p=>oR kind p pods nodes)=fin->∀(fr:List (Nat×AV)) (hp:Hl) (nx:Nat),Kp [3,4,5,8,9,13] fr0 fr ->
     look fr 14=.pv (.int .i64 i)->3<=nx->fo (look fr 12) hp 4 (pre.map bK) 3 nx->(∀k,k<3->ah hp k=ah hp0 k)->Wp T false (.loop uy) ⟨fr,hp,nx⟩ Q:=by
 intro rest;induction rest with
 |nil =>
  intro i pre hd hi ho fr hp nx hK ph h3 hO hs;have hlen:=drop_nil hd hi;simp only[NN,bG]at ho;subst ho;have c8:=(hK 8 (by decide)).trans g8;have l8:=h8.len (ah hp);rw[az,aY uy.eq_1];simp only[rL',aa,simprocAttr,c8,l8,ph,hlen,aP];refine bS _ _ _ ?_ h3 ?_ hs
  ·repeat (refine Kp.put (by decide) ?_)
   exact hK
  ·simp only[aj,Nat.reduceEqDiff];exact hO
 |cons p r ih =>
  intro i pre hd hi ho fr hp nx hK ph h3 hO hs;obtain⟨aN,hlt,hw,dh,cW,hb⟩:=drop_cons hd (by omega);have e8:=h8.get aN;have d8:=(hK 8 (by decide)).trans g8;have c8:=d8.trans e8;have d9:=(hK 9 (by decide)).trans g9;have tq:=(hK 13 (by decide)).trans pg;rw[eN,<-gm]at ho;have lh:(pre++oR kind p pods nodes).length<=2^29:=by have:=da List.length ho;rw[aG]at this;omega
  by_cases k2:kind=2
  ·have C8:oR kind p pods nodes=[⟨2,p,0,0⟩]:=by unfold oR;rw[aW k2,k2]
   rw[C8]at ho lh;have uQ:pre.length+1<=2^30:=by rw[aG,ay,bM]at lh;omega
   obtain⟨v',W,k,a1,a2,a3⟩:=hO.mh h3 (bK ⟨2,p,0,0⟩) (by rw[al];exact uQ);simp only[bK]at a1 a3;generalize mS:look fr 12=NH at hO a1;rw[k2]at tq;rw[az,aY uy.eq_1];simp only[rL',aa,simprocAttr,c8,ph,hlt,al,tq,aN,cD,mS,bt,chunk,cn,bL,bV,dV,a1,hw];refine ih (i+1) (pre++[⟨2,p,0,0⟩]) dh cW ho _ _ _ ?_ ?_ (by omega) ?_ (fun k hk=>?_)
   ·repeat (refine Kp.put (by decide) ?_)
    exact hK
   ·all_goals try simp only[aj,Nat.reduceEqDiff,]
   ·simp only[aj,Nat.reduceEqDiff];simpa only[bh,aX,aC,bK]using a3
   ·exact(a2 k hk).trans (hs k hk)
  ·have C8:oR kind p pods nodes=nodes.flatMap fun n=>gu kind p n pods:=by unfold oR;rw[ar k2]
   rw[az,aY uy.eq_1];simp only[rL',aa,simprocAttr,c8,ph,hlt,al,tq,k2];refine KP (hp0:=hp0) (pods:=pods) (nodes:=nodes) (fin:=pre++oR kind p pods nodes) (kind:=kind) (p:=p) mJ nr lh h8 h9 aN (fr0:=_) ?_ ?_ ?_ ?_ (fun fG hp' cC k1 K4 Nv qY=>?_) nodes 0 pre rfl (aO _) (by rw[C8]) _ _ _ (fun _ _=>rfl) ?_ h3 ?_ hs
   ·all_goals try simp only[aj,Nat.reduceEqDiff,d8]
   ·all_goals try simp only[aj,Nat.reduceEqDiff,d9]
   ·all_goals try simp only[aj,Nat.reduceEqDiff,tq]
   ·all_goals try simp only[aj,Nat.reduceEqDiff,ph]
   ·have HG:=k1 14 (by decide);simp only[aj,Nat.reduceEqDiff,ph]at HG;simp only[rL',aa,simprocAttr,HG,hw];refine ih (i+1) _ dh cW ho _ _ _ ?_ ?_ K4 ?_ qY
    ·repeat (refine Kp.put (by decide) ?_)
     refine Kp.trans ?_ k1 (by decide)
     repeat (refine Kp.put (by decide) ?_)
     exact hK
    ·all_goals try simp only[aj,Nat.reduceEqDiff,]
    ·simp only[aj,Nat.reduceEqDiff];exact Nv
   ·all_goals try simp only[aj,Nat.reduceEqDiff,]
    rfl
   ·simp only[aj,Nat.reduceEqDiff];exact hO
set_option maxRecDepth 100000 in
set_option maxHeartbeats 16000000 in
theorem KR(mJ:pods.length<=2^29)(nr:nodes.length<=2^29)(qa:fin.length<=2^29)(h8:zz a8 pods)(h9:zz a9 nodes){fr0:List (Nat×AV)}(g8:look fr0 8=a8)(g9:look fr0 9=a9)
    (bS:∀fr hp nx,Kp [3,4,5] fr0 fr->3<=nx->fo (look fr 12) hp 4 (fin.map bK) 3 nx->(∀k,k<3->ah hp k=ah hp0 k)->Q (.exit 4) ⟨fr,hp,nx⟩) :
    ∀(n:Nat) (k:Int) (pre:List Move),1<=k->k+n=5->pre++nv pods nodes n k=fin->∀(fr:List (Nat×AV)) (hp:Hl) (nx:Nat),Kp [3,4,5,8,9] fr0 fr ->
     look fr 13=.pv (.int .i64 k)->3<=nx->fo (look fr 12) hp 4 (pre.map bK) 3 nx->(∀k,k<3->ah hp k=ah hp0 k)->Wp T false (.loop yl) ⟨fr,hp,nx⟩ Q:=by
 intro n;induction n with
 |zero =>
  intro k pre F1 hk ho fr hp nx hK pg h3 hO hs;simp only[nv,bG]at ho;subst ho;have hc:¬k<=4:=by omega
  rw[az,aY yl.eq_1];simp only[rL',aa,simprocAttr,pg,hc];refine bS _ _ _ ?_ h3 ?_ hs
  ·repeat (refine Kp.put (by decide) ?_)
   exact fun i hi=>hK i (by revert hi;revert i;decide)
  ·simp only[aj,Nat.reduceEqDiff];exact hO
 |succ n ih =>
  intro k pre F1 hk ho fr hp nx hK pg h3 hO hs;have d8:=(hK 8 (by decide)).trans g8;have d9:=(hK 9 (by decide)).trans g9;have hc:k<=4:=by omega
  have hw:IntKind.i64.wrap (k+1)=k+1:=by rw[dS] <;>omega
  simp only[nv]at ho;rw[<-gm]at ho;have lh:(pre++CL pods nodes k).length<=2^29:=by have:=da List.length ho;rw[aG]at this;omega
  rw[az,aY yl.eq_1];simp only[rL',aa,simprocAttr,pg,hc];refine KQ (hp0:=hp0) (pods:=pods) (nodes:=nodes) (fin:=pre++CL pods nodes k) (kind:=k) mJ nr lh h8 h9 (fr0:=_) ?_ ?_ ?_ (fun fG hp' cC k1 K4 Nv qY=>?_) pods 0 pre rfl (aO _) rfl _ _ _ (fun _ _=>rfl) ?_ h3 ?_ hs
  ·all_goals try simp only[aj,Nat.reduceEqDiff,d8]
  ·all_goals try simp only[aj,Nat.reduceEqDiff,d9]
  ·all_goals try simp only[aj,Nat.reduceEqDiff,pg]
  ·have Ps:=k1 13 (by decide);simp only[aj,Nat.reduceEqDiff,pg]at Ps;simp only[rL',aa,simprocAttr,Ps,hw];refine ih (k+1) _ (by omega) (by omega) ho _ _ _ ?_ ?_ K4 ?_ qY
   ·repeat (refine Kp.put (by decide) ?_)
    refine Kp.trans ?_ k1 (by decide)
    repeat (refine Kp.put (by decide) ?_)
    exact hK
   ·all_goals try simp only[aj,Nat.reduceEqDiff,]
   ·simp only[aj,Nat.reduceEqDiff];exact Nv
  ·all_goals try simp only[aj,Nat.reduceEqDiff,]
   rfl
  ·simp only[aj,Nat.reduceEqDiff];exact hO
end
theorem fy.snap{v:AV}{hp:Hl}{sz lo nx:Nat}{es:List (List PV)}(h:fy v hp sz es lo nx):dD (ah hp) v=some (.slice es):=by
 rcases h with⟨rfl,rfl⟩|⟨id,lH,a,b,⟨rfl,rfl⟩|⟨rfl,c⟩,d⟩
 ·rfl
 ·simp only[dD,dH,d]
 ·have hle:es.length<=lH.length:=by have:=da List.length c;rw[ib]at this;omega
  have:Nat.ble (0+es.length) lH.length=true:=by rw[Nat.ble_eq];omega
  simp only[dD,dH,d,this,gL,c]
set_option maxRecDepth 100000 in
set_option maxHeartbeats 16000000 in
theorem KS{s:bc}{x:Spec}{t:State}{ms:List Move}(kd:∀m∈ms,ba T 181 [aF s,bg x,aw t,dG m] (de (oq s x t m)))(VF:ms.length<=2^29){NH:AV}{lo:Nat}{hpS:Hl}(Ho:3<=lo)(hv:fo NH hpS 4 (ms.map bK) 3 lo){fr0:List (Nat×AV)}(g3:look fr0 3=.ptr 0 0 0)(g4:look fr0 4=.ptr 1 0 0)(g5:look fr0 5=.ptr 2 0 0)(nS:look fr0 12=NH)
    (b0:ah hpS 0=.var [.pv (.slice (s.nodes.map bC)),.pv (.slice (s.aT.map bO)),.pv (.slice (s.pods.map aK))]) (b1:ah hpS 1=.var [.pv (.slice (x.b9.map cj)),.pv (.int .i64 x.pre),.pv (.int .i64 x.fe)]) (b2:ah hpS 2=.var [.pv (.slice (t.pods.map aK)),.pv (.int .i64 t.pre),.pv (.int .i64 t.fe)]) (Q:Exit->St->Prop)
    (bS:∀fr hp nx,fy (look fr 17) hp 4 ((outs s x t ms).map fun p=>bK p.1) lo nx->fy (look fr 18) hp 3 ((outs s x t ms).map fun p=>nM p.2) lo nx->Q (.exit 12) ⟨fr,hp,nx⟩) :
    ∀(rest:List Move) (i:Nat) (pre:List Move),ms.drop i=rest->i<=ms.length->pre++rest=ms->∀(fr:List (Nat×AV)) (hp:Hl) (nx:Nat),Kp [3,4,5,12] fr0 fr->look fr 19=.pv (.int .i64 i)->lo<=nx ->
     fy (look fr 17) hp 4 ((outs s x t pre).map fun p=>bK p.1) lo nx->fy (look fr 18) hp 3 ((outs s x t pre).map fun p=>nM p.2) lo nx->(∀k,k∈cu (look fr 17)->k∈cu (look fr 18)->False)->(∀k,k<lo->ah hp k=ah hpS k)->Wp T false (.loop uz) ⟨fr,hp,nx⟩ Q:=by
 intro rest;induction rest with
 |nil =>
  intro i pre hd hi ho fr hp nx hK DD hn Oj Hd wP hs;have hlen:=drop_nil hd hi;simp only[bG]at ho;subst ho;have vO:=(hK 12 (by decide)).trans nS;have TL:=(hv.mono (hp':=hp) (fun k _ hk=>hs k hk) (ax _)).len;rw[al]at TL;rw[az,aY uz.eq_1];simp only[rL',aa,simprocAttr,vO,TL,DD,hlen,aP];refine bS _ _ _ ?_ ?_
  ·simp only[aj,Nat.reduceEqDiff];exact Oj
  ·simp only[aj,Nat.reduceEqDiff];exact Hd
 |cons m r ih =>
  intro i pre hd hi ho fr hp nx hK DD hn Oj Hd wP hs;obtain⟨aN,hlt,hw,dh,cW,hb⟩:=drop_cons hd (by omega);have c3:=(hK 3 (by decide)).trans g3;have c4:=(hK 4 (by decide)).trans g4;have c5:=(hK 5 (by decide)).trans g5;have vO:=(hK 12 (by decide)).trans nS;obtain⟨id,rfl,i1,i2,i3⟩:∃id,NH=.ms id/\3<=id/\id<lo/\ah hpS id=.row 4 (ms.map bK):=by
   rcases hv with⟨h,_⟩|h
   ·have:ms=[]:=by simpa using h
    rw[this]at aN;simp at aN
   ·exact h
  have d0:=(hs 0 (by omega)).trans b0;have d1:=(hs 1 (by omega)).trans b1;have d2:=(hs 2 (by omega)).trans b2;have Nl:=(hs id i2).trans i3;have n0:¬nx=0:=by omega
  have n1:¬nx=1:=by omega
  have n2:¬nx=2:=by omega
  have n3:¬nx=id:=by omega
  have n4:¬id=nx:=by omega
  have m0:¬0=nx:=by omega
  have m1:¬1=nx:=by omega
  have m2:¬2=nx:=by omega
  have k:=kd m (dZ aN);have RV:i<ms.length:=(aA.1 aN).1;have Qk:(ms.map bK)[i]? =some (bK m):=by rw[fm,aN];rfl
  have Ca:pre.length+1<=2^29:=by have:=da List.length ho;rw[aG,ay]at this;omega
  simp only[bK]at Qk;cases OO:oq s x t m with
  |inl e =>
   have he:=GR s x t m e OO;have he0:¬e=0:=by unfold mA at he;omega
   have P7:outs s x t (pre++[m])=outs s x t pre:=by
    rw[mO];unfold rC;rw[OO];simp
   rw[OO]at k;simp only[de,eB,aF,bg,aw,dG,bK,aC]at k;rw[az,aY uz.eq_1];simp only[rL',aa,simprocAttr,vO,Nl,DD,hlt,al];refine iv (ps:=[(0,11),(1,11),(2,11),(5,11),(6,11)]) rfl ?_;simp only[rL',aa,simprocAttr,c3,c4,c5,vO,DD,d0,d1,d2,Nl,Qk,RV,al,k.iM,n0,n1,n2,n3];refine⟨by simp only[iU,uj,mF,fB,mem,keys,iJ,cu,cz,cF,aE,aI,rL',aa,simprocAttr,c3,c4,c5,vO,n0,n1,n2,n3,n4,m0,m1,m2,bB,bq],?_⟩;simp only[rL',aa,simprocAttr,he0,DD,hw];refine ih (i+1) (pre++[m]) dh cW (by rw[<-ho];simp) _ _ _ ?_ ?_ (by omega) ?_ ?_ ?_ (fun k hk=>?_)
   ·repeat (refine Kp.put (by decide) ?_)
    exact hK
   ·all_goals try simp only[aj,Nat.reduceEqDiff,]
   ·simp only[aj,Nat.reduceEqDiff];rw[P7];exact Oj.mono (fun k _ hk _=>by have:¬nx=k:=(by omega);simp only[aD,this,aJ]) (by omega)
   ·simp only[aj,Nat.reduceEqDiff];rw[P7];exact Hd.mono (fun k _ hk _=>by have:¬nx=k:=(by omega);simp only[aD,this,aJ]) (by omega)
   ·simp only[aj,Nat.reduceEqDiff];exact wP
   ·have:¬nx=k:=by omega
    simp only[aD,this,aJ];exact hs k hk
  |inr u =>
   have P7:outs s x t (pre++[m])=outs s x t pre++[(m,u)]:=by
    rw[mO];unfold rC;rw[OO];simp
   have S1:=rk s x t pre;rw[OO]at k;simp only[de,aF,bg,aw,dG,bK]at k;have SC:fy (look fr 17) ((nx,.var [.pv (.slice (u.pods.map aK)),.pv (.int .i64 u.pre),.pv (.int .i64 u.fe)])::(nx,.var [.bu,.pv (.int .i64 0),.pv (.int .i64 0)])::hp) 4 ((outs s x t pre).map fun p=>bK p.1) lo (nx+1):=Oj.mono (fun k _ hk _=>by have:¬nx=k:=(by omega);simp only[aD,this,aJ]) (by omega);obtain⟨W,a1,a2,a3⟩:=SC.mh (by omega) (bK m) (by rw[al];omega);have N7:fy (look fr 18) (W++(nx+1,.row 4 [bK m])::(nx,.var [.pv (.slice (u.pods.map aK)),.pv (.int .i64 u.pre),.pv (.int .i64 u.fe)])::(nx,.var [.bu,.pv (.int .i64 0),.pv (.int .i64 0)])::hp) 3 ((outs s x t pre).map fun p=>nM p.2) lo (nx+1+1+1):=Hd.mono (fun k _ hk hm=>by
    rw[a2 k (by omega) (fun h=>wP k h hm)];have:¬nx=k:=by omega
    simp only[aD,this,aJ]) (by omega)
   obtain⟨W2,e1,e2,e3⟩:=N7.mh (by omega) (nM u) (by rw[al];omega);have SL:=Oj.low;have NI:=Hd.low;have an:=a2 nx (by omega) (fun h=>by have:=(SL nx h).2;omega);have QN:=a2 id (by omega) (fun h=>by have:=(SL id h).1;omega);simp only[bK,nM]at a1 a3 e1 an QN;simp only[aj,Nat.reduceEqDiff,n3,Nl]at an QN;generalize Rg:look fr 17=VN at *;generalize Ro:look fr 18=qn at *;rw[az,aY uz.eq_1];simp only[rL',aa,simprocAttr,vO,Nl,DD,hlt,al];refine iv (ps:=[(0,11),(1,11),(2,11),(5,11),(6,11)]) rfl ?_;simp only[rL',aa,simprocAttr,c3,c4,c5,vO,DD,d0,d1,d2,Nl,Qk,RV,al,k.iM,n0,n1,n2,n3];refine⟨by simp only[iU,uj,mF,fB,mem,keys,iJ,cu,cz,cF,aE,aI,rL',aa,simprocAttr,c3,c4,c5,vO,n0,n1,n2,n3,n4,m0,m1,m2,bB,bq],?_⟩;simp only[rL',aa,simprocAttr,DD,hw,Rg,Ro,vO,Nl,n3,Qk,RV,al,bt,chunk,cn,bL,bV,dV,a1,an,QN,e1];refine ih (i+1) (pre++[m]) dh cW (by rw[<-ho];simp) _ _ _ ?_ ?_ (by omega) ?_ ?_ ?_ (fun k hk=>?_)
   ·repeat (refine Kp.put (by decide) ?_)
    exact hK
   ·all_goals try simp only[aj,Nat.reduceEqDiff,]
   ·simp only[aj,Nat.reduceEqDiff];rw[P7,bh];refine .inr ⟨nx+1+1,_,by omega,by omega,.inl ⟨rfl,rfl⟩,?_⟩;have:=e2 (nx+1+1) (by omega) (fun h=>by have:=(NI _ h).2;omega);simp only[bK,nM]at this;rw[this];exact a3
   ·simp only[aj,Nat.reduceEqDiff];rw[P7,bh];exact .inr ⟨nx+1+1+1+1,_,by omega,by omega,.inl ⟨rfl,rfl⟩,e3⟩
   ·simp only[aj,Nat.reduceEqDiff];intro k h1 h2;simp[cu]at h1 h2;omega
   ·have:=e2 k (by omega) (fun h=>by have:=(NI _ h).1;omega);simp only[bK,nM]at this;rw[this];have:=a2 k (by omega) (fun h=>by have:=(SL _ h).1;omega);simp only[bK]at this;rw[this];have:¬nx=k:=by omega
    simp only[aD,this,aJ];exact hs k hk
set_option maxRecDepth 100000 in
set_option maxHeartbeats 16000000 in
theorem Jo(Ri:Std T 185 f185)(Aq:Std T 189 f189){s:bc}{x:Spec}{t:State}(kd:∀m:Move,m.wf->ba T 181 [aF s,bg x,aw t,dG m] (de (oq s x t m)))(hs:s.wf)(ht:∀p∈t.pods,p.wf)(hn:s.nodes.length<=500)(Ax:t.pods.length<=500) :
    ba T 185 [aF s,bg x,aw t] (.tuple [.slice ((mg s x t).map fun p=>bK p.1),.slice ((mg s x t).map fun p=>nM p.2)]):=by
 refine gives Ri rfl ?_;have lp:(nU (t.pods.map dm.id)).length<=500:=by have:=tz (t.pods.map dm.id);rw[al]at this;omega
 have ln:(nU (s.nodes.map Node.id)).length<=500:=by have:=tz (s.nodes.map Node.id);rw[al]at this;omega
 have lc:=og _ _ lp ln;have hw:∀m∈jW (nU (t.pods.map dm.id)) (nU (s.nodes.map Node.id)),m.wf:=fun m hm=>by
  refine xP (s:=s) (t:=t) hs ht ?_;simp only[jW,cq,zx,cw,Az]at hm;simp only[qD,jW,cq,zx,cw,jy];exact hm
 simp only[f185,rL',aa,simprocAttr,aF,bg,aw];refine KM Aq t (by omega) ?_ _ (fun JM k1 q8=>?_) t.pods 0 [] rfl (aO _) rfl (ax _) _ (fun _ _=>rfl) ?_ ?_ ?_
 ·simp only[aj,Nat.reduceEqDiff]
 ·have j3:=k1 3 (by decide);simp only[aj,Nat.reduceEqDiff]at j3;simp only[rL',aa,simprocAttr];refine KN Aq s (by omega) ?_ _ (fun Nn k2 q9=>?_) s.nodes 0 [] rfl (aO _) rfl (ax _) _ (fun _ _=>rfl) ?_ ?_ ?_
  ·simp only[aj,Nat.reduceEqDiff]
  ·have i8:=k2 8 (by decide);simp only[aj,Nat.reduceEqDiff]at i8;rw[<-i8]at q8;simp only[rL',aa,simprocAttr];refine KR (hp0:=_) (by omega) (by omega) lc q8 q9 (fr0:=_) ?_ ?_ (fun Vt S4 TI k3 h3 hO S9=>?_) 4 1 [] (by decide) (by decide) (by rw[aE,uX]) _ _ _ (fun _ _=>rfl) ?_ (ax _) ?_ (fun _ _=>rfl)
   ·all_goals try simp only[aj,Nat.reduceEqDiff,]
   ·all_goals try simp only[aj,Nat.reduceEqDiff,]
   ·have j4:=k1 4 (by decide);have j5:=k1 5 (by decide);have l3:=k2 3 (by decide);have l4:=k2 4 (by decide);have l5:=k2 5 (by decide);have m3:=k3 3 (by decide);have m4:=k3 4 (by decide);have m5:=k3 5 (by decide);simp only[aj,Nat.reduceEqDiff]at j4 j5;simp only[aj,Nat.reduceEqDiff,j3,j4,j5]at l3 l4 l5;simp only[aj,Nat.reduceEqDiff,l3,l4,l5]at m3 m4 m5;have s0:=S9 0 (by decide);have s1:=S9 1 (by decide);have s2:=S9 2 (by decide);simp only[aj,Nat.reduceEqDiff]at s0 s1 s2;simp only[rL',aa,simprocAttr];refine KS (s:=s) (x:=x) (t:=t) (ms:=jW (nU (t.pods.map dm.id)) (nU (s.nodes.map Node.id))) (fun m hm=>kd m (hw m hm)) lc h3 hO (hpS:=S4) (fr0:=_) ?_ ?_ ?_ ?_ s0 s1 s2 _ (fun fr hp nx SC N7=>?_) _ 0 [] rfl (aO _) rfl _ _ _ (fun _ _=>rfl) ?_ (ax _) ?_ ?_ ?_ (fun _ _=>rfl)
    ·all_goals try simp only[aj,Nat.reduceEqDiff,m3]
    ·all_goals try simp only[aj,Nat.reduceEqDiff,m4]
    ·all_goals try simp only[aj,Nat.reduceEqDiff,m5]
    ·all_goals try simp only[aj,Nat.reduceEqDiff,]
    ·simp only[rL',aa,simprocAttr,SC.snap,N7.snap];rfl
    ·all_goals try simp only[aj,Nat.reduceEqDiff,]
     rfl
    ·simp only[aj,Nat.reduceEqDiff];exact .inl ⟨rfl,rfl⟩
    ·simp only[aj,Nat.reduceEqDiff];exact .inl ⟨rfl,rfl⟩
    ·simp only[aj,Nat.reduceEqDiff];intro k h;simp[cu]at h
   ·all_goals try simp only[aj,Nat.reduceEqDiff,]
   ·simp only[aj,Nat.reduceEqDiff];exact fo.nil
  ·all_goals try simp only[aj,Nat.reduceEqDiff,j3]
  ·all_goals try simp only[aj,Nat.reduceEqDiff,]
   rfl
  ·have j9:=k1 9 (by decide);simp only[aj,Nat.reduceEqDiff]at j9;simp only[aj,Nat.reduceEqDiff,j9];exact .inl ⟨rfl,rfl⟩
 ·all_goals try simp only[aj,Nat.reduceEqDiff,]
 ·all_goals try simp only[aj,Nat.reduceEqDiff,]
  rfl
 ·simp only[aj,Nat.reduceEqDiff];exact .inl ⟨rfl,rfl⟩
end
end
def hasB(k:ByteArray):List ByteArray->Bool
 |[]=>false
 |a::r=>decide (a=k)||hasB k r
theorem Au(k:ByteArray):∀M:List ByteArray,hasB k M=true↔k∈M
 |[]=>by simp[hasB]
 |a::r=>by
  simp only[hasB,ke,bI,Au k r,aQ];constructor
  ·rintro(h|h)
   ·exact .inl h.symm
   ·exact .inr h
  ·rintro(h|h)
   ·exact .inl h.symm
   ·exact .inr h
def J7(most:Nat):List State->List ByteArray->List State->Option (List ByteArray×List State)
 |[],M,N=>some (M,N)
 |u::r,M,N=>if hasB (fO u) M=true then(if most<M.length then none else J7 most r M N)else(if most<M.length+1 then none else J7 most r (M++[fO u]) (N++[u]))
def wj(s:bc)(x:Spec)(most:Nat):List State->List ByteArray->List State->Option (List ByteArray×List State)
 |[],M,N=>some (M,N)
 |t::r,M,N=>match J7 most ((mg s x t).map Prod.snd) M N with
  |none=>none
  |some q=>wj s x most r q.1 q.2
def lB(s:bc)(x:Spec)(most:Nat):Nat->List State->List ByteArray->Bool×Bool
 |0,L,M=>if L.any (fun t=>dg x.b9 t.pods)=true then(true,true)else(false,true)
 |n+1,L,M=>if L.any (fun t=>dg x.b9 t.pods)=true then(true,true)else match wj s x most L M []with
  |none=>(false,false)
  |some q=>lB s x most n q.2 q.1
theorem Ce{most:Nat}:∀{us:List State} {M:List ByteArray} {N:List State} {q:List ByteArray×List State},J7 most us M N=some q->∃new,q.2=N++new/\q.1=M++new.map fO/\(∀u∈new,u∈us)/\∀u∈us,fO u∈q.1
 |[],M,N,q,h=>by
  simp only[J7,ai]at h;subst h;exact⟨[],by simp,by simp,by simp,by simp⟩
 |u::r,M,N,q,h=>by
  unfold J7 at h;split at h
  ·rename_i hm;split at h
   ·simp at h
   ·obtain⟨new,h1,h2,h3,h4⟩:=Ce h;refine⟨new,h1,h2,fun v hv=>bd _ (h3 v hv),fun v hv=>?_⟩;rcases aQ.1 hv with rfl|hv
    ·rw[h2];exact jq _ ((Au _ _).1 hm)
    ·exact h4 v hv
  ·split at h
   ·simp at h
   ·obtain⟨new,h1,h2,h3,h4⟩:=Ce h;refine⟨u::new,by rw[h1];simp,by rw[h2];simp,fun v hv=>?_,fun v hv=>?_⟩
    ·rcases aQ.1 hv with rfl|hv
     ·exact bN ..
     ·exact bd _ (h3 v hv)
    ·rcases aQ.1 hv with rfl|hv
     ·rw[h2];simp
     ·exact h4 v hv
theorem yZ{s:bc}{x:Spec}{most:Nat}:∀{L:List State} {M:List ByteArray} {N:List State} {q:List ByteArray×List State},wj s x most L M N=some q->∃new,q.2=N++new/\q.1=M++new.map fO/\(∀u∈new,∃t∈L,∃m,oq s x t m=.inr u)/\∀t∈L,∀m u,oq s x t m=.inr u->fO u∈q.1
 |[],M,N,q,h=>by
  simp only[wj,ai]at h;subst h;exact⟨[],by simp,by simp,by simp,by simp⟩
 |t::r,M,N,q,h=>by
  unfold wj at h;cases hi:J7 most ((mg s x t).map Prod.snd) M N with
  |none=>rw[hi]at h;simp at h
  |some p =>
   rw[hi]at h;obtain⟨n1,h1,h2,h3,h4⟩:=Ce hi;obtain⟨n2,e1,e2,e3,e4⟩:=yZ h;refine⟨n1++n2,by rw[e1,h1];simp,by rw[e2,h2];simp,fun u hu=>?_,fun t' ht m u hd=>?_⟩
   ·rcases cq.1 hu with hu|hu
    ·obtain⟨p',hp,rfl⟩:=cw.1 (h3 u hu);exact⟨t,bN ..,p'.1,tR.1 hp⟩
    ·obtain⟨t',ht,m,hd⟩:=e3 u hu;exact⟨t',bd _ ht,m,hd⟩
   ·rcases aQ.1 ht with rfl|ht
    ·have:=h4 u (cw.2 ⟨(m,u),tR.2 hd,rfl⟩);rw[e2];exact jq _ this
    ·exact e4 t' ht m u hd
def Nk(s:bc)(x:Spec)(d:Nat)(t:State):Prop:=∃ms:List Move,ms.length<=d/\Wk s x ms t
theorem Wk.last{s:bc}{x:Spec}{ms:List Move}{m:Move}{u:State}(h:Wk s x (ms++[m]) u):∃t,Wk s x ms t/\oq s x t m=.inr u:=by
 have key:∀(ms:List Move) (t0:State) (i:Nat),dE s x (ms++[m]) t0 i=(u,i+(ms++[m]).length,none)->∃t,dE s x ms t0 i=(t,i+ms.length,none)/\oq s x t m=.inr u:=by
  intro ms;induction ms with
  |nil =>
   intro t0 i h;simp only[aE,dE]at h;cases hd:oq s x t0 m with
   |inl c=>rw[hd]at h;simp at h
   |inr v =>
    rw[hd]at h;simp only[aZ]at h;exact⟨t0,rfl,by rw[<-h.1];exact hd⟩
  |cons a r ih =>
   intro t0 i h;simp only[aI,dE]at h⊢;cases hd:oq s x t0 a with
   |inl c=>rw[hd]at h;simp at h
   |inr v =>
    rw[hd]at h;dsimp only at h⊢;obtain⟨t,h1,h2⟩:=ih v (i+1) (by rw[h];simp only[ay];congr 2;omega);exact⟨t,by rw[h1];simp only[ay];congr 2;omega,h2⟩
 obtain⟨t,h1,h2⟩:=key ms (cv s) 0 (by rw[aM];exact h);exact⟨t,by rw[aM]at h1;exact h1,h2⟩
structure Bs(s:bc)(x:Spec)(d:Nat)(P L:List State)(M:List ByteArray):Prop where
 sub:∀t∈L,t∈P
 all:∀t,Nk s x d t->t∈P
 rs:∀t∈P,Rs s t/\Nk s x d t
 key:∀k,k∈M↔∃t∈P,fO t=k
 cl:∀t∈P,¬t∈L->¬dg x.b9 t.pods=true/\∀m u,oq s x t m=.inr u->u∈P
theorem Bs.step{s:bc}{x:Spec}{d most:Nat}{P L:List State}{M:List ByteArray}{q:List ByteArray×List State}(hs:s.wf)(hx:∀w∈x.b9,w.wf)(I:Bs s x d P L M)(hg:∀t∈L,¬dg x.b9 t.pods=true)(h:wj s x most L M []=some q):∃P',Bs s x (d+1) P' q.2 q.1:=by
 obtain⟨new,h1,h2,h3,h4⟩:=yZ h;rw[aE]at h1;have Vg:∀u∈new,Rs s u/\Nk s x (d+1) u:=fun u hu=>by
  obtain⟨t,ht,m,hd⟩:=h3 u hu;obtain⟨r1,ms,r2,r3⟩:=I.rs t (I.sub t ht);exact⟨r1.step hs hx hd,ms++[m],by rw[aG];simp;omega,r3.snoc hd⟩
 have Tp:∀t∈P++new,Rs s t/\Nk s x (d+1) t:=fun t ht=>by
  rcases cq.1 ht with ht|ht
  ·obtain⟨r1,ms,r2,r3⟩:=I.rs t ht;exact⟨r1,ms,by omega,r3⟩
  ·exact Vg t ht
 have OX:∀k,k∈q.1↔∃t∈P++new,fO t=k:=fun k=>by
  rw[h2,cq,I.key,cw];constructor
  ·rintro(⟨t,ht,e⟩|⟨t,ht,e⟩)
   ·exact⟨t,jq _ ht,e⟩
   ·exact⟨t,List.mem_append_right _ ht,e⟩
  ·rintro⟨t,ht,e⟩
   rcases cq.1 ht with ht|ht
   ·exact .inl ⟨t,ht,e⟩
   ·exact .inr ⟨t,ht,e⟩
 have Ly:∀t∈P,∀m u,oq s x t m=.inr u->u∈P++new:=fun t ht m u hd=>by
  by_cases hL:t∈L
  ·obtain⟨w,hw,e⟩:=(OX _).1 (h4 t hL m u hd);have r1:=(Tp w hw).1;have r2:=(I.rs t ht).1.step hs hx hd;rw[<-uW r1.1 r2.1 (by rw[r1.2,r2.2]) e];exact hw
  ·exact jq _ ((I.cl t ht hL).2 m u hd)
 refine⟨P++new,?_,?_,Tp,OX,?_⟩
 ·intro t ht;rw[h1]at ht;exact List.mem_append_right _ ht
 ·rintro t ⟨ms,hl,hw⟩
  rcases List.eq_nil_or_concat ms with rfl|⟨a,m,rfl⟩
  ·exact jq _ (I.all t ⟨[],by simp,hw⟩)
  ·rw[List.concat_eq_append]at hl hw;obtain⟨t0,g1,g2⟩:=hw.last;exact Ly t0 (I.all t0 ⟨a,by rw[aG]at hl;simp at hl;omega,g1⟩) m t g2
 ·intro t ht hn;rcases cq.1 ht with ht|ht
  ·refine⟨?_,Ly t ht⟩;by_cases hL:t∈L
   ·exact hg t hL
   ·exact(I.cl t ht hL).1
  ·exact absurd (by rw[h1];exact ht) hn
theorem xe{s:bc}{x:Spec}{most:Nat}(hs:s.wf)(hx:∀w∈x.b9,w.wf):∀{n d:Nat} {P L:List State} {M:List ByteArray},Bs s x d P L M->((lB s x most n L M).1=true->(lB s x most n L M).2=true/\∃t,Nk s x (d+n) t/\dg x.b9 t.pods=true)/\(lB s x most n L M=(false,true)->∀t,Nk s x (d+n) t->¬dg x.b9 t.pods=true)
 |0,d,P,L,M,I=>by
  unfold lB;by_cases hg:L.any (fun t=>dg x.b9 t.pods)=true
  ·rw[aW hg];rw[List.any_eq_true]at hg;obtain⟨t,ht,h⟩:=hg;exact⟨fun _=>⟨rfl,t,(I.rs t (I.sub t ht)).2,h⟩,fun h=>by simp at h⟩
  ·rw[ar hg];refine⟨fun h=>by simp at h,fun _ t ht h=>?_⟩;have hP:=I.all t ht;by_cases hL:t∈L
   ·exact hg (List.any_eq_true.2 ⟨t,hL,h⟩)
   ·exact(I.cl t hP hL).1 h
 |n+1,d,P,L,M,I=>by
  unfold lB;by_cases hg:L.any (fun t=>dg x.b9 t.pods)=true
  ·rw[aW hg];rw[List.any_eq_true]at hg;obtain⟨t,ht,h⟩:=hg;obtain⟨ms,h1,h2⟩:=(I.rs t (I.sub t ht)).2;exact⟨fun _=>⟨rfl,t,⟨ms,by omega,h2⟩,h⟩,fun h=>by simp at h⟩
  ·rw[ar hg];cases hl:wj s x most L M []with
   |none=>exact⟨fun h=>by simp at h,fun h=>by simp at h⟩
   |some q =>
    obtain⟨P',I'⟩:=I.step hs hx (fun t ht h=>hg (List.any_eq_true.2 ⟨t,ht,h⟩)) hl;have:=xe hs hx (n:=n) (most:=most) I';rw[show d+1+n=d+(n+1) by omega]at this;exact this
theorem Bs.first{s:bc}{x:Spec}(hs:s.wf):Bs s x 0 [cv s] [cv s] [fO (cv s)]:=by
 refine⟨fun t h=>h,?_,fun t ht=>?_,fun k=>?_,fun t h1 h2=>absurd h1 h2⟩
 ·rintro t ⟨ms,hl,hw⟩
  have:ms=[]:=bX (by omega);subst this;simp only[Wk,dE,aZ]at hw;simp[hw.1]
 ·simp only[gR]at ht;subst ht;exact⟨Rs.first hs,[],by simp,rfl⟩
 ·simp only[gR,exists_eq_left];exact eq_comm

section
theorem Vi(a b:ByteArray):(a.toList==b.toList)=decide (a=b):=by
 by_cases h:a=b
 ·subst h;simp
 ·have:¬a.toList=b.toList:=fun e=>h (by
   rw[ByteArray.toList_eq,ByteArray.toList_eq]at e;cases a with|mk x=>cases b with|mk y =>
   congr 1
   exact Array.ext' e)
  rw[TZ h];simpa using this
def CU(k:ByteArray):List PV:=[.str k]
theorem fy.at{v:AV}{hp:Hl}{sz lo nx i:Nat}{es:List (List PV)}{e:List PV}(h:fy v hp sz es lo nx)(hg:es[i]? =some e):∃id lH,lo<=id/\id<nx/\cu v=[id]/\ah hp id=.row sz lH/\lH[i]? =some e/\i<lH.length/\kD (ah hp) sz (i:Nat) v=some (.ptr id i 0):=by
 have hi:=(aA.1 hg).1;rcases h with⟨rfl,_⟩|⟨id,lH,a,b,⟨rfl,rfl⟩|⟨rfl,c⟩,d⟩
 ·simp at hg
 ·refine⟨id,lH,a,b,rfl,d,hg,hi,?_⟩;simp[kD,d,hi]
 ·have hle:es.length<=lH.length:=by have:=da List.length c;rw[ib]at this;omega
  have hg2:lH[i]? =some e:=by
   rw[<-c,md,aW hi]at hg;exact hg
  refine⟨id,lH,a,b,rfl,d,hg2,by omega,?_⟩;simp[kD,d,hi]
section
variable{T:cK}
set_option maxRecDepth 100000 in
set_option maxHeartbeats 16000000 in
theorem KC{M:List ByteArray}(hM:M.length<=2^29){nF:AV}{hp:Hl}{nx lo:Nat}(hv:fy nF hp 1 (M.map CU) lo nx){key:ByteArray}{fr0:List (Nat×AV)}(ph:look fr0 14=nF)(U3:look fr0 23=.pv (.str key))(Q:Exit->St->Prop)
    (bS:∀fr,Kp [2,3,4,5,13,14,15,18,19,21,22,23] fr0 fr->look fr 24=.pv (.bool (!hasB key M))->Q (.exit 8) ⟨fr,hp,nx⟩) :
    ∀(rest:List ByteArray) (i:Nat) (b:Bool),M.drop i=rest->i<=M.length->(b&&!hasB key rest)=!hasB key M->∀(fr:List (Nat×AV)),Kp [2,3,4,5,13,14,15,18,19,21,22,23] fr0 fr->look fr 24=.pv (.bool b)->look fr 25=.pv (.int .i64 i)->Wp T false (.loop yo) ⟨fr,hp,nx⟩ Q:=by
 intro rest;induction rest with
 |nil =>
  intro i b hd hi ho fr hK IY Q7;have hlen:=drop_nil hd hi;have BJ:=(hK 14 (by decide)).trans ph;have zD:=hv.len;rw[al]at zD;simp only[hasB,Bool.not_false,bB]at ho;subst ho;rw[az,aY yo.eq_1];simp only[rL',aa,simprocAttr,BJ,zD,Q7,hlen,aP];refine bS _ ?_ ?_
  ·repeat (refine Kp.put (by decide) ?_)
   exact hK
  ·all_goals try simp only[aj,Nat.reduceEqDiff,IY]
 |cons a r ih =>
  intro i b hd hi ho fr hK IY Q7;obtain⟨aN,hlt,hw,dh,cW,hb⟩:=drop_cons hd (by omega);have BJ:=(hK 14 (by decide)).trans ph;have TW:=(hK 23 (by decide)).trans U3;have zD:=hv.len;rw[al]at zD;obtain⟨id,lH,e1,e2,e3,e4,e5,e6,e7⟩:=hv.at (i:=i) (e:=[.str a]) (by rw[fm,aN];rfl);rw[az,aY yo.eq_1];simp only[hasB]at ho;cases b with
  |false =>
   simp only[rL',aa,simprocAttr,BJ,zD,IY,Q7,hlt,hw];refine ih (i+1) false dh cW (by rw[<-ho];simp) _ ?_ ?_ ?_
   ·repeat (refine Kp.put (by decide) ?_)
    exact hK
   ·all_goals try simp only[aj,Nat.reduceEqDiff,]
   ·all_goals try simp only[aj,Nat.reduceEqDiff,]
  |true =>
   simp only[rL',aa,simprocAttr,BJ,zD,TW,IY,Q7,hlt,hw,e7,e4,e5,Vi];refine ih (i+1) (!decide (a=key)) dh cW (by rw[<-ho];cases decide (a=key) <;>simp) _ ?_ ?_ ?_
   ·repeat (refine Kp.put (by decide) ?_)
    exact hK
   ·all_goals try simp only[aj,Nat.reduceEqDiff,]
   ·all_goals try simp only[aj,Nat.reduceEqDiff,]
structure Gc(s:bc)(x:Spec)(L:List State)(M:List ByteArray)(N:List State)(v13 nF qn:AV)(hp:Hl)(nx:Nat):Prop where
 b0:ah hp 0=.var [.pv (.slice (s.nodes.map bC)),.pv (.slice (s.aT.map bO)),.pv (.slice (s.pods.map aK))]
 b1:ah hp 1=.var [.pv (.slice (x.b9.map cj)),.pv (.int .i64 x.pre),.pv (.int .i64 x.fe)]
 pj:fy v13 hp 3 (L.map nM) 3 nx
 uL:fy nF hp 1 (M.map CU) 3 nx
 Hd:fy qn hp 3 (N.map nM) 3 nx
 d1:∀i,i∈cu v13->i∈cu nF->False
 d2:∀i,i∈cu v13->i∈cu qn->False
 d3:∀i,i∈cu nF->i∈cu qn->False
 hn:3<=nx
theorem Gc.NV{s:bc}{x:Spec}{L:List State}{M:List ByteArray}{N:List State}{v13 nF qn:AV}{hp:Hl}{nx:Nat}(h:Gc s x L M N v13 nF qn hp nx)(k:ByteArray)(hl:M.length+1<=2^30) :
    ∃W,fR (ah ((nx,.row 1 [CU k])::hp)) (nx+1) 1 nF [CU k]=some (.ms (nx+1),W,1)/\Gc s x L (M++[k]) N v13 (.ms (nx+1)) qn (W++(nx,.row 1 [CU k])::hp) (nx+2):=by
 obtain⟨W,a1,a2,a3⟩:=h.uL.mh h.hn (CU k) (by rw[al];exact hl);have hn:=h.hn;have zD:=h.uL.low;have CZ:=h.pj.low;have NI:=h.Hd.low;have z:∀i,i<3->¬i∈cu nF:=fun i hi hm=>by have:=(zD i hm).1;omega
 refine⟨W,a1,(a2 0 (by omega) (z 0 (by omega))).trans h.b0,(a2 1 (by omega) (z 1 (by omega))).trans h.b1,h.pj.mono (fun i _ hi hm=>a2 i hi (h.d1 i hm)) (by omega),?_,h.Hd.mono (fun i _ hi hm=>a2 i hi (fun h2=>h.d3 i h2 hm)) (by omega),fun i h1 h2=>?_,h.d2,fun i h1 h2=>?_,by omega⟩
 ·rw[bh];exact .inr ⟨nx+1,_,by omega,by omega,.inl ⟨rfl,rfl⟩,a3⟩
 ·have:=(CZ i h1).2;simp[cu]at h2;omega
 ·have:=(NI i h2).2;simp[cu]at h1;omega
theorem Gc.NW{s:bc}{x:Spec}{L:List State}{M:List ByteArray}{N:List State}{v13 nF qn:AV}{hp:Hl}{nx:Nat}(h:Gc s x L M N v13 nF qn hp nx)(u:State)(hl:N.length+1<=2^30) :
    ∃W,fR (ah ((nx,.row 3 [nM u])::hp)) (nx+1) 3 qn [nM u]=some (.ms (nx+1),W,1)/\Gc s x L M (N++[u]) v13 nF (.ms (nx+1)) (W++(nx,.row 3 [nM u])::hp) (nx+2):=by
 obtain⟨W,a1,a2,a3⟩:=h.Hd.mh h.hn (nM u) (by rw[al];exact hl);have hn:=h.hn;have zD:=h.uL.low;have CZ:=h.pj.low;have NI:=h.Hd.low;have z:∀i,i<3->¬i∈cu qn:=fun i hi hm=>by have:=(NI i hm).1;omega
 refine⟨W,a1,(a2 0 (by omega) (z 0 (by omega))).trans h.b0,(a2 1 (by omega) (z 1 (by omega))).trans h.b1,h.pj.mono (fun i _ hi hm=>a2 i hi (h.d2 i hm)) (by omega),h.uL.mono (fun i _ hi hm=>a2 i hi (h.d3 i hm)) (by omega),?_,h.d1,fun i h1 h2=>?_,fun i h1 h2=>?_,by omega⟩
 ·rw[bh];exact .inr ⟨nx+1,_,by omega,by omega,.inl ⟨rfl,rfl⟩,a3⟩
 ·have:=(CZ i h1).2;simp[cu]at h2;omega
 ·have:=(zD i h1).2;simp[cu]at h2;omega
set_option maxRecDepth 100000 in
set_option maxHeartbeats 16000000 in
theorem KD{s:bc}{x:Spec}{L us:List State}{most:Nat}(kk:∀u∈us,ba T 186 [aw u] (.str (fO u)))(Tr:us.length<=2^29)(hm:most<=100000){v13:AV}{fr0:List (Nat×AV)}(g3:look fr0 3=.pv (.int .i64 (most:Nat)))(pg:look fr0 13=v13)(T7:look fr0 21=.pv (.slice (us.map nM)))(Q:Exit->St->Prop)(o:Option (List ByteArray×List State))
    (bS:∀q,o=some q->∀fr hp nx nF qn,Kp [2,3,4,5,13,15,19,21] fr0 fr->look fr 14=nF->look fr 18=qn->Gc s x L q.1 q.2 v13 nF qn hp nx->q.1.length<=most->q.2.length<=q.1.length->Q (.exit 6) ⟨fr,hp,nx⟩)
    (dK:o=none->∀fr hp nx,look fr 8=.pv (.bool false)->look fr 9=.pv (.bool false)->Q .ret ⟨fr,hp,nx⟩) :
    ∀(rest:List State) (i:Nat) (M:List ByteArray) (N:List State),us.drop i=rest->i<=us.length->J7 most rest M N=o->M.length<=most->N.length<=M.length->∀(fr:List (Nat×AV)) (hp:Hl) (nx:Nat) (nF qn:AV),Kp [2,3,4,5,13,15,19,21] fr0 fr->look fr 14=nF->look fr 18=qn->look fr 22=.pv (.int .i64 i)->Gc s x L M N v13 nF qn hp nx->Wp T false (.loop yp) ⟨fr,hp,nx⟩ Q:=by
 intro rest;induction rest with
 |nil =>
  intro i M N hd hi ho J2 Mt fr hp nx nF qn hK ph Mg Q6 V;have hlen:=drop_nil hd hi;have Q4:=(hK 21 (by decide)).trans T7;rw[az,aY yp.eq_1];simp only[rL',aa,simprocAttr,Q4,Q6,hlen,aP,al];refine bS (M,N) (by rw[<-ho];rfl) _ _ _ nF qn ?_ ?_ ?_ V J2 Mt
  ·repeat (refine Kp.put (by decide) ?_)
   exact hK
  ·all_goals try simp only[aj,Nat.reduceEqDiff,ph]
  ·all_goals try simp only[aj,Nat.reduceEqDiff,Mg]
 |cons u r ih =>
  intro i M N hd hi ho J2 Mt fr hp nx nF qn hK ph Mg Q6 V;obtain⟨aN,hlt,hw,dh,cW,hb⟩:=drop_cons hd (by omega);have Q4:=(hK 21 (by decide)).trans T7;have c3:=(hK 3 (by decide)).trans g3;have k:=kk u (dZ aN);have RQ:(us.map nM)[i]? =some [.slice (u.pods.map aK),.int .i64 u.pre,.int .i64 u.fe]:=by rw[fm,aN];rfl
  simp only[aw]at k;unfold J7 at ho;rw[az,aY yp.eq_1];simp only[rL',aa,simprocAttr,Q4,Q6,hlt,al,RQ,k.call];refine KC (M:=M) (by omega) V.uL (key:=fO u) (fr0:=_) ?_ ?_ _ (fun JM k1 IY=>?_) M 0 true rfl (aO _) (by simp) _ (fun _ _=>rfl) ?_ ?_
  ·all_goals try simp only[aj,Nat.reduceEqDiff,ph]
  ·all_goals try simp only[aj,Nat.reduceEqDiff,]
  ·have HG:=k1 14 (by decide);have Qu:=k1 18 (by decide);have Sn:=k1 21 (by decide);have Qv:=k1 22 (by decide);have So:=k1 23 (by decide);have j3:=k1 3 (by decide);simp only[aj,Nat.reduceEqDiff,ph,Mg,Q4,Q6,c3]at HG Qu Sn Qv So j3;have Qg:Kp [2,3,4,5,13,15,19,21] fr0 JM:=by
    refine Kp.trans ?_ k1 (by decide)
    repeat (refine Kp.put (by decide) ?_)
    exact hK
   by_cases hh:hasB (fO u) M=true
   ·rw[aW hh]at ho;rw[hh]at IY;have zD:=V.uL.len;rw[al]at zD;have hc:¬(most:Int)<(M.length:Int):=by omega
    rw[ar (by omega)]at ho;simp only[rL',aa,simprocAttr,IY,HG,Qv,j3,zD,hc,hw];refine ih (i+1) M N dh cW ho J2 Mt _ _ _ nF qn ?_ ?_ ?_ ?_ V
    ·repeat (refine Kp.put (by decide) ?_)
     exact Qg
    ·all_goals try simp only[aj,Nat.reduceEqDiff,HG]
    ·all_goals try simp only[aj,Nat.reduceEqDiff,Qu]
    ·all_goals try simp only[aj,Nat.reduceEqDiff,]
   ·rw[ar hh]at ho;have Uq:hasB (fO u) M=false:=by simpa using hh
    rw[Uq]at IY;obtain⟨W,a1,V1⟩:=V.NV (fO u) (by omega);obtain⟨W2,a2,V2⟩:=V1.NW u (by omega);have zD:=V2.uL.len;rw[al,aG]at zD;simp only[CU,nM,ay,bM]at a1 a2 zD;by_cases hc:most<M.length+1
    ·rw[aW hc]at ho;have wb:(most:Int)<((M.length+(0+1):Nat):Int):=by omega
     simp only[rL',aa,simprocAttr,IY,HG,Qu,Sn,Qv,So,j3,RQ,bt,chunk,cn,bL,bV,dV,a1,a2,zD,wb];refine dK ho.symm _ _ _ ?_ ?_
     ·all_goals try simp only[aj,Nat.reduceEqDiff,]
     ·all_goals try simp only[aj,Nat.reduceEqDiff,]
    ·rw[ar hc]at ho;have wb:¬(most:Int)<((M.length+(0+1):Nat):Int):=by omega
     simp only[rL',aa,simprocAttr,IY,HG,Qu,Sn,Qv,So,j3,RQ,bt,chunk,cn,bL,bV,dV,a1,a2,zD,wb,hw];refine ih (i+1) (M++[fO u]) (N++[u]) dh cW ho (by rw[aG];simp;omega) (by rw[aG,aG];simp;omega) _ _ _ (.ms (nx+1)) (.ms (nx+2+1)) ?_ ?_ ?_ ?_ V2
     ·repeat (refine Kp.put (by decide) ?_)
      refine fun j hj=>?_;exact Qg j hj
     ·all_goals try simp only[aj,Nat.reduceEqDiff,]
     ·all_goals try simp only[aj,Nat.reduceEqDiff,]
     ·all_goals try simp only[aj,Nat.reduceEqDiff,]
  ·all_goals try simp only[aj,Nat.reduceEqDiff,]
  ·all_goals try simp only[aj,Nat.reduceEqDiff,]
   rfl
set_option maxRecDepth 100000 in
set_option maxHeartbeats 16000000 in
theorem KE{s:bc}{x:Spec}{L:List State}{most:Nat}(ka:∀t∈L,ba T 185 [aF s,bg x,aw t] (.tuple [.slice ((mg s x t).map fun p=>bK p.1),.slice ((mg s x t).map fun p=>nM p.2)]))(kk:∀t∈L,∀p∈mg s x t,ba T 186 [aw p.2] (.str (fO p.2)))(OI:∀t∈L,(mg s x t).length<=2^29)(hL:L.length<=2^29)(hm:most<=100000){v13:AV}{fr0:List (Nat×AV)}(g3:look fr0 3=.pv (.int .i64 (most:Nat)))(g4:look fr0 4=.ptr 0 0 0)(g5:look fr0 5=.ptr 1 0 0)(pg:look fr0 13=v13)(Q:Exit->St->Prop)(o:Option (List ByteArray×List State))
    (bS:∀q,o=some q->∀fr hp nx nF qn,Kp [2,3,4,5,13,15] fr0 fr->look fr 14=nF->look fr 18=qn->Gc s x L q.1 q.2 v13 nF qn hp nx->q.1.length<=most->q.2.length<=q.1.length->Q (.exit 4) ⟨fr,hp,nx⟩)
    (dK:o=none->∀fr hp nx,look fr 8=.pv (.bool false)->look fr 9=.pv (.bool false)->Q .ret ⟨fr,hp,nx⟩) :
    ∀(rest:List State) (i:Nat) (M:List ByteArray) (N:List State),L.drop i=rest->i<=L.length->wj s x most rest M N=o->M.length<=most->N.length<=M.length->∀(fr:List (Nat×AV)) (hp:Hl) (nx:Nat) (nF qn:AV),Kp [2,3,4,5,13,15] fr0 fr->look fr 14=nF->look fr 18=qn->look fr 19=.pv (.int .i64 i)->Gc s x L M N v13 nF qn hp nx->Wp T false (.loop yq) ⟨fr,hp,nx⟩ Q:=by
 intro rest;induction rest with
 |nil =>
  intro i M N hd hi ho J2 Mt fr hp nx nF qn hK ph Mg DD V;have hlen:=drop_nil hd hi;have tq:=(hK 13 (by decide)).trans pg;have CZ:=V.pj.len;rw[al]at CZ;rw[az,aY yq.eq_1];simp only[rL',aa,simprocAttr,tq,CZ,DD,hlen,aP];refine bS (M,N) (by rw[<-ho];rfl) _ _ _ nF qn ?_ ?_ ?_ V J2 Mt
  ·repeat (refine Kp.put (by decide) ?_)
   exact hK
  ·all_goals try simp only[aj,Nat.reduceEqDiff,ph]
  ·all_goals try simp only[aj,Nat.reduceEqDiff,Mg]
 |cons t r ih =>
  intro i M N hd hi ho J2 Mt fr hp nx nF qn hK ph Mg DD V;obtain⟨aN,hlt,hw,dh,cW,hb⟩:=drop_cons hd (by omega);have Sc:=dZ aN;have tq:=(hK 13 (by decide)).trans pg;have c4:=(hK 4 (by decide)).trans g4;have c5:=(hK 5 (by decide)).trans g5;have c3:=(hK 3 (by decide)).trans g3;have CZ:=V.pj.len;rw[al]at CZ;obtain⟨id,lH,e1,e2,e3,e4,e5,e6,e7⟩:=V.pj.at (i:=i) (e:=nM t) (by rw[fm,aN];rfl);have k:=ka t Sc;have d0:=V.b0;have d1:=V.b1;simp only[aF,bg,aw]at k;simp only[nM]at e5;unfold wj at ho;rw[az,aY yq.eq_1];simp only[rL',aa,simprocAttr,tq,CZ,DD,hlt];refine(cy rfl).2 ?_;simp only[rL',aa,simprocAttr,c4,c5,tq,DD,d0,d1,e7,e4,e5,k.cm];have P1:(mg s x t).map (fun p=>nM p.2)=((mg s x t).map Prod.snd).map nM:=by rw[List.map_map];rfl
  refine KD (L:=L) (us:=(mg s x t).map Prod.snd) (most:=most) (fun u hu=>?_) (by rw[al];exact OI t Sc) hm (v13:=v13) (fr0:=_) ?_ ?_ ?_ _ (J7 most ((mg s x t).map Prod.snd) M N) (fun q hq JM qd KA SI SJ k1 SB N7 V1 m1 m2=>?_) (fun hq JM qd KA q8 q9=>?_) _ 0 M N rfl (aO _) rfl J2 Mt _ _ _ nF qn (fun _ _=>rfl) ?_ ?_ ?_ V
  ·obtain⟨p,hp,rfl⟩:=cw.1 hu;exact kk t Sc p hp
  ·all_goals try simp only[aj,Nat.reduceEqDiff,c3]
  ·all_goals try simp only[aj,Nat.reduceEqDiff,tq]
  ·simp only[aj,Nat.reduceEqDiff,nM]at P1⊢;rw[<-P1]
  ·rw[hq]at ho;have Ty:=k1 19 (by decide);simp only[aj,Nat.reduceEqDiff,DD]at Ty;simp only[rL',aa,simprocAttr,Ty,hw];refine ih (i+1) q.1 q.2 dh cW ho m1 m2 _ _ _ SI SJ ?_ ?_ ?_ ?_ V1
   ·repeat (refine Kp.put (by decide) ?_)
    refine Kp.trans ?_ k1 (by decide)
    repeat (refine Kp.put (by decide) ?_)
    exact hK
   ·all_goals try simp only[aj,Nat.reduceEqDiff,SB]
   ·all_goals try simp only[aj,Nat.reduceEqDiff,N7]
   ·all_goals try simp only[aj,Nat.reduceEqDiff,]
  ·rw[hq]at ho;simp only[rL',aa,simprocAttr];exact dK ho.symm _ _ _ q8 q9
  ·all_goals try simp only[aj,Nat.reduceEqDiff,ph]
  ·all_goals try simp only[aj,Nat.reduceEqDiff,Mg]
  ·all_goals try simp only[aj,Nat.reduceEqDiff,]
   rfl
set_option maxRecDepth 100000 in
set_option maxHeartbeats 16000000 in
theorem DX{x:Spec}{L:List State}{hp:Hl}{nx lo:Nat}(kg:∀t∈L,ba T 165 [bg x,aw t] (.bool (dg x.b9 t.pods)))(hL:L.length<=2^29){v13:AV}(pj:fy v13 hp 3 (L.map nM) lo nx)(b1:ah hp 1=.var [.pv (.slice (x.b9.map cj)),.pv (.int .i64 x.pre),.pv (.int .i64 x.fe)]){fr0:List (Nat×AV)}(g5:look fr0 5=.ptr 1 0 0)(pg:look fr0 13=v13)(Q:Exit->St->Prop)(b:Bool)
    (bS:b=false->∀fr,Kp [2,3,4,5,13,14,15] fr0 fr->Q (.exit 2) ⟨fr,hp,nx⟩) (dK:b=true->∀fr,look fr 8=.pv (.bool true)->look fr 9=.pv (.bool true)->Q .ret ⟨fr,hp,nx⟩) :
    ∀(rest:List State) (i:Nat),L.drop i=rest->i<=L.length->rest.any (fun t=>dg x.b9 t.pods)=b->∀(fr:List (Nat×AV)),Kp [2,3,4,5,13,14,15] fr0 fr->look fr 16=.pv (.int .i64 i)->Wp T false (.loop yn) ⟨fr,hp,nx⟩ Q:=by
 intro rest;induction rest with
 |nil =>
  intro i hd hi ho fr hK tv;have hlen:=drop_nil hd hi;have tq:=(hK 13 (by decide)).trans pg;have CZ:=pj.len;rw[al]at CZ;rw[az,aY yn.eq_1];simp only[rL',aa,simprocAttr,tq,CZ,tv,hlen,aP];refine bS (by rw[<-ho];rfl) _ ?_
  repeat (refine Kp.put (by decide) ?_)
  exact hK
 |cons t r ih =>
  intro i hd hi ho fr hK tv;obtain⟨aN,hlt,hw,dh,cW,hb⟩:=drop_cons hd (by omega);have tq:=(hK 13 (by decide)).trans pg;have c5:=(hK 5 (by decide)).trans g5;have CZ:=pj.len;rw[al]at CZ;obtain⟨id,lH,e1,e2,e3,e4,e5,e6,e7⟩:=pj.at (i:=i) (e:=nM t) (by rw[fm,aN];rfl);have k:=kg t (dZ aN);simp only[bg,aw]at k;simp only[nM]at e5;simp only[List.any_cons]at ho;rw[az,aY yn.eq_1];simp only[rL',aa,simprocAttr,tq,CZ,tv,hlt];refine(cy rfl).2 ?_;cases hg:dg x.b9 t.pods with
  |true =>
   rw[hg]at k ho;simp only[rL',aa,simprocAttr,c5,tq,tv,b1,e7,e4,e5,k.cm];refine dK (by rw[<-ho];rfl) _ ?_ ?_
   ·all_goals try simp only[aj,Nat.reduceEqDiff,]
   ·all_goals try simp only[aj,Nat.reduceEqDiff,]
  |false =>
   rw[hg]at k ho;simp only[rL',aa,simprocAttr,c5,tq,tv,b1,e7,e4,e5,k.cm,hw];refine ih (i+1) dh cW (by rw[<-ho];simp) _ ?_ ?_
   ·repeat (refine Kp.put (by decide) ?_)
    exact hK
   ·all_goals try simp only[aj,Nat.reduceEqDiff,]
set_option maxRecDepth 100000 in
set_option maxHeartbeats 16000000 in
theorem KF{s:bc}{x:Spec}{most depth:Nat}(hs:s.wf)(hx:∀w∈x.b9,w.wf)(My:depth<=2^29)(ka:∀t,Rs s t->ba T 185 [aF s,bg x,aw t] (.tuple [.slice ((mg s x t).map fun p=>bK p.1),.slice ((mg s x t).map fun p=>nM p.2)]))(kk:∀t,Rs s t->ba T 186 [aw t] (.str (fO t)))(kg:∀t,Rs s t->ba T 165 [bg x,aw t] (.bool (dg x.b9 t.pods)))(OI:∀t,Rs s t->(mg s x t).length<=2^29)(hm:most<=100000)(Q:Exit->St->Prop)(o:Bool×Bool)
    (dK:∀fr hp nx,look fr 8=.pv (.bool o.1)->look fr 9=.pv (.bool o.2)->Q .ret ⟨fr,hp,nx⟩) :
    ∀(n d:Nat) (L:List State) (M:List ByteArray),d+n=depth->lB s x most n L M=o->M.length<=most->L.length<=M.length->(∀t∈L,Rs s t)->∀(fr:List (Nat×AV)) (hp:Hl) (nx:Nat) (v13 nF:AV),look fr 2=.pv (.int .i64 (depth:Nat))->look fr 3=.pv (.int .i64 (most:Nat))->look fr 4=.ptr 0 0 0->look fr 5=.ptr 1 0 0->look fr 13=v13->look fr 14=nF->look fr 15=.pv (.int .i64 (d:Nat))->Gc s x L M [] v13 nF .bu hp nx->Wp T false (.loop yr) ⟨fr,hp,nx⟩ Q:=by
 intro n;induction n with
 |zero =>
  intro d L M hd ho J2 Uf hR fr hp nx v13 nF g2 g3 g4 g5 pg ph tf V;unfold lB at ho;rw[az,aY yr.eq_1];simp only[rL',aa,simprocAttr];refine DX (L:=L) (fun t ht=>kg t (hR t ht)) (by omega) V.pj V.b1 (fr0:=_) ?_ ?_ _ (L.any fun t=>dg x.b9 t.pods) (fun hb JM k1=>?_) (fun hb JM q8 q9=>?_) L 0 rfl (aO _) rfl _ (fun _ _=>rfl) ?_
  ·all_goals try simp only[aj,Nat.reduceEqDiff,g5]
  ·all_goals try simp only[aj,Nat.reduceEqDiff,pg]
  ·rw[hb]at ho;have j2:=k1 2 (by decide);have Km:=k1 15 (by decide);simp only[aj,Nat.reduceEqDiff,g2,tf]at j2 Km;have hc:((d:Nat):Int)=((depth:Nat):Int):=by omega
   simp only[rL',aa,simprocAttr,j2,Km,hc];refine dK _ _ _ ?_ ?_
   ·rw[<-ho]
    all_goals try simp only[aj,Nat.reduceEqDiff,]
    rfl
   ·rw[<-ho]
    all_goals try simp only[aj,Nat.reduceEqDiff,]
    rfl
  ·rw[hb]at ho;simp only[rL',aa,simprocAttr];refine dK _ _ _ ?_ ?_
   ·rw[<-ho];exact q8
   ·rw[<-ho];exact q9
  ·all_goals try simp only[aj,Nat.reduceEqDiff,]
   rfl
 |succ n ih =>
  intro d L M hd ho J2 Uf hR fr hp nx v13 nF g2 g3 g4 g5 pg ph tf V;unfold lB at ho;rw[az,aY yr.eq_1];simp only[rL',aa,simprocAttr];refine DX (L:=L) (fun t ht=>kg t (hR t ht)) (by omega) V.pj V.b1 (fr0:=_) ?_ ?_ _ (L.any fun t=>dg x.b9 t.pods) (fun hb JM k1=>?_) (fun hb JM q8 q9=>?_) L 0 rfl (aO _) rfl _ (fun _ _=>rfl) ?_
  ·all_goals try simp only[aj,Nat.reduceEqDiff,g5]
  ·all_goals try simp only[aj,Nat.reduceEqDiff,pg]
  ·rw[hb]at ho;simp only[bA,aJ]at ho;have j2:=k1 2 (by decide);have j3:=k1 3 (by decide);have j4:=k1 4 (by decide);have j5:=k1 5 (by decide);have Ps:=k1 13 (by decide);have HG:=k1 14 (by decide);have Km:=k1 15 (by decide);simp only[aj,Nat.reduceEqDiff,g2,g3,g4,g5,pg,ph,tf]at j2 j3 j4 j5 Ps HG Km;have hc:¬((d:Nat):Int)=((depth:Nat):Int):=by omega
   simp only[rL',aa,simprocAttr,j2,Km,hc];refine KE (L:=L) (most:=most) (fun t ht=>ka t (hR t ht)) (fun t ht p hp=>kk p.2 ((hR t ht).step hs hx (tR.1 hp))) (fun t ht=>OI t (hR t ht)) (by omega) hm (v13:=v13) (fr0:=_) ?_ ?_ ?_ ?_ _ (wj s x most L M []) (fun q hq Nn qt LI SI SJ k2 SB N7 V1 m1 m2=>?_) (fun hq Nn qt LI q8 q9=>?_) L 0 M [] rfl (aO _) rfl J2 (aO _) _ _ _ nF .bu (fun _ _=>rfl) ?_ ?_ ?_ V
   ·all_goals try simp only[aj,Nat.reduceEqDiff,j3]
   ·all_goals try simp only[aj,Nat.reduceEqDiff,j4]
   ·all_goals try simp only[aj,Nat.reduceEqDiff,j5]
   ·all_goals try simp only[aj,Nat.reduceEqDiff,Ps]
   ·rw[hq]at ho;dsimp only at ho;have i2:=k2 2 (by decide);have i3:=k2 3 (by decide);have i4:=k2 4 (by decide);have i5:=k2 5 (by decide);have Tw:=k2 15 (by decide);simp only[aj,Nat.reduceEqDiff,j2,j3,j4,j5,Km]at i2 i3 i4 i5 Tw;have hw:IntKind.i64.wrap ((d:Int)+1)=((d+1:Nat):Int):=by rw[dS] <;>omega
    obtain⟨new,h1,_,h3,_⟩:=yZ hq;rw[aE]at h1;simp only[rL',aa,simprocAttr,Tw,N7,hw];refine ih (d+1) q.2 q.1 (by omega) ho m1 m2 (fun t ht=>?_) _ _ _ SJ SI ?_ ?_ ?_ ?_ ?_ ?_ ?_ ⟨V1.b0,V1.b1,V1.Hd,V1.uL,.inl ⟨rfl,rfl⟩,fun i a b=>V1.d3 i b a,fun i a b=>by simp[cu]at b,fun i a b=>by simp[cu]at b,V1.hn⟩
    ·rw[h1]at ht;obtain⟨t',ML,m,hd⟩:=h3 t ht;exact(hR t' ML).step hs hx hd
    ·all_goals try simp only[aj,Nat.reduceEqDiff,i2]
    ·all_goals try simp only[aj,Nat.reduceEqDiff,i3]
    ·all_goals try simp only[aj,Nat.reduceEqDiff,i4]
    ·all_goals try simp only[aj,Nat.reduceEqDiff,i5]
    ·all_goals try simp only[aj,Nat.reduceEqDiff,]
    ·all_goals try simp only[aj,Nat.reduceEqDiff,SB]
    ·all_goals try simp only[aj,Nat.reduceEqDiff,]
   ·rw[hq]at ho;simp only[rL',aa,simprocAttr];refine dK _ _ _ ?_ ?_
    ·rw[<-ho];exact q8
    ·rw[<-ho];exact q9
   ·all_goals try simp only[aj,Nat.reduceEqDiff,HG]
   ·all_goals try simp only[aj,Nat.reduceEqDiff,]
   ·all_goals try simp only[aj,Nat.reduceEqDiff,]
    rfl
  ·rw[hb]at ho;simp only[rL',aa,simprocAttr];refine dK _ _ _ ?_ ?_
   ·rw[<-ho];exact q8
   ·rw[<-ho];exact q9
  ·all_goals try simp only[aj,Nat.reduceEqDiff,]
   rfl
def gH(s:bc)(x:Spec)(depth most:Nat):Bool×Bool:=if(oW s x (cv s)).1=0 then lB s x most depth [cv s] [fO (cv s)]else(false,true)
set_option maxRecDepth 100000 in
set_option maxHeartbeats 16000000 in
theorem CF(Rk:Std T 187 f187){s:bc}{x:Spec}{most depth:Nat}(hs:s.wf)(hx:∀w∈x.b9,w.wf)(My:depth<=2^29)(k1:ba T 164 [aF s] (aw (cv s)))(kw:ba T 184 [aF s,bg x,aw (cv s)] (.tuple [.int .i64 (oW s x (cv s)).1,.int .i64 (oW s x (cv s)).2]))(ka:∀t,Rs s t->ba T 185 [aF s,bg x,aw t] (.tuple [.slice ((mg s x t).map fun p=>bK p.1),.slice ((mg s x t).map fun p=>nM p.2)]))(kk:∀t,Rs s t->ba T 186 [aw t] (.str (fO t)))(kg:∀t,Rs s t->ba T 165 [bg x,aw t] (.bool (dg x.b9 t.pods)))(OI:∀t,Rs s t->(mg s x t).length<=2^29)(hm:most<=100000)(UC:1<=most) :
    ba T 187 [aF s,bg x,.int .i64 (depth:Nat),.int .i64 (most:Nat)] (.tuple [.bool (gH s x depth most).1,.bool (gH s x depth most).2]):=by
 refine gives Rk rfl ?_;have k2:=kk (cv s) (Rs.first hs);simp only[aF,bg,aw]at k1 kw k2⊢;unfold gH;by_cases c:(oW s x (cv s)).1=0
 ·rw[aW c];simp only[f187,rL',aa,simprocAttr,k1.call,kw.call,k2.call,c,bt,chunk];refine KF hs hx My ka kk kg OI hm _ (lB s x most depth [cv s] [fO (cv s)]) (fun fr hp nx q8 q9=>?_) depth 0 [cv s] [fO (cv s)] (by omega) rfl (by simpa using UC) (ax _) (fun t ht=>by simp only[gR]at ht;rw[ht];exact Rs.first hs) _ _ _ (.ms 3) (.ms 4) ?_ ?_ ?_ ?_ ?_ ?_ ?_ ⟨?_,?_,.inr ⟨3,_,by decide,by decide,.inl ⟨rfl,rfl⟩,?_⟩,.inr ⟨4,_,by decide,by decide,.inl ⟨rfl,rfl⟩,?_⟩,.inl ⟨rfl,rfl⟩,by simp[cu],by simp[cu],by simp[cu],by decide⟩
  ·simp only[rL',aa,simprocAttr,q8,q9]
  ·all_goals try simp only[aj,Nat.reduceEqDiff,]
  ·all_goals try simp only[aj,Nat.reduceEqDiff,]
  ·all_goals try simp only[aj,Nat.reduceEqDiff,]
  ·all_goals try simp only[aj,Nat.reduceEqDiff,]
  ·all_goals try simp only[aj,Nat.reduceEqDiff,]
  ·all_goals try simp only[aj,Nat.reduceEqDiff,]
  ·all_goals try simp only[aj,Nat.reduceEqDiff,]
   rfl
  ·simp only[aj,Nat.reduceEqDiff]
  ·simp only[aj,Nat.reduceEqDiff]
  ·simp only[aj,Nat.reduceEqDiff];rfl
  ·simp only[aj,Nat.reduceEqDiff];rfl
 ·rw[ar c];simp only[f187,rL',aa,simprocAttr,k1.call,kw.call,c]
theorem Fx{s:bc}{x:Spec}{depth most:Nat}(hs:s.wf)(hx:∀w∈x.b9,w.wf)(h:(oW s x (cv s)).1=0):((gH s x depth most).1=true->(gH s x depth most).2=true/\∃ms:List Move,∃t,ms.length<=depth/\Wk s x ms t/\dg x.b9 t.pods=true)/\(gH s x depth most=(false,true)->∀ms t,ms.length<=depth->Wk s x ms t->¬dg x.b9 t.pods=true):=by
 have:=xe (most:=most) hs hx (n:=depth) (Bs.first (x:=x) hs);rw[aM]at this;unfold gH;rw[aW h];refine⟨fun h1=>?_,fun h1 ms t hl hw=>this.2 h1 t ⟨ms,hl,hw⟩⟩;obtain⟨a,t,⟨ms,b,c⟩,d⟩:=this.1 h1;exact⟨a,ms,t,b,c,d⟩
end
end
section
section
variable{T:cK}
structure zJ(T:cK):Prop where
 oB:Std T 155 f155
 EV:Std T 157 f157
 EX:Std T 166 f166
 nT:Std T 167 f167
set_option maxRecDepth 100000 in
set_option maxHeartbeats 4000000 in
theorem MY(S:zJ T)(s:bc)(x:Spec)(t:State)(m:Move)(hs:s.nodes.length<=2^29)(hx:x.b9.length<=2^29)(ht:t.pods.length<=2^29)(hk:m.kind=1) :
    ba T 166 [aF s,bg x,aw t,dG m] (de (bP s x t m)):=by
 refine gives S.EX rfl ?_;have kp:=hG S.nT t m.eP (by omega);have ko:=hG S.nT t m.over (by omega);have kn:=lz S.oB s m.node (by omega);have kw:=pt S.EV x m.eP (by omega);simp only[aF,bg,aw]at kp ko kn kw;simp only[f166,rL',aa,simprocAttr,aF,bg,aw,dG,bK];have f1:¬m.kind<1:=by omega
 have f2:¬4<m.kind:=by omega
 have g3:∀(i:Nat) (q:dm),(t.pods.map aK).set i (aK q)=(t.pods.set i q).map aK:=fun i q=>(List.map_set).symm;have hlen:t.pods.length<=2^30:=by omega
 have M7:cn 8 []=true:=rfl;by_cases o0:m.over=0
 ·have d0:=bJ o0;rcases bZ m.eP t.pods 0 with⟨p1,p2⟩|⟨j,p,aN,p2,p3,hj⟩
  ·rw[p2]at kp;have hm:bP s x t m=.inl 4:=by
    unfold bP;rw[ar (by simp[fh,hk,o0]),aW (by rw[p2];decide)]
   simp only[rL',aa,simprocAttr,f1,f2,hk,d0,kp.call,ko.call,hm,de,eB,aw,aC]
  ·rw[p3,aM]at kp;have lP:¬(j:Int)<0:=by omega
   rcases ik m.node s.nodes 0 with⟨e1,e2⟩|⟨a,n,e1,e2,e3⟩
   ·rw[e2]at kn;have hm:bP s x t m=.inl 4:=by
     unfold bP;rw[ar (by simp[fh,hk,o0]),ar (by rw[p3];omega),aW ⟨by omega,e1⟩]
    simp only[rL',aa,simprocAttr,f1,f2,hk,d0,kp.call,ko.call,kn.call,lP,hm,de,eB,aw,aC]
   ·rw[e3,aM]at kn;have G4:¬(a:Int)<0:=by omega
    simp only[rL',aa,simprocAttr,f1,f2,hk,d0,kp.call,ko.call,kn.call,lP,G4,aN,aK];refine iv (ps:=[(0,1),(0,2),(0,4),(0,5),(0,6),(0,7),(0,9),(1,9),(2,9),(3,4),(3,5),(3,6),(3,7),(3,9),(4,9),(5,9),(6,9),(7,9)]) rfl ?_;simp only[rL',aa,simprocAttr,cT,bt,dV,chunk,M7,fR,eQ,hlen,aE];refine⟨by simp only[iU,uj,mF,fB,mem,keys,iJ,cu,cz,cF,aE,aI,rL',aa,simprocAttr,bB,bq],?_⟩;by_cases c1:p.node=0
    ·have d1:=bJ c1;have hm:bP s x t m=.inr ⟨t.pods.set j (eJ x p m.node),t.pre,t.fe⟩:=by
      unfold bP;rw[ar (by simp[fh,hk,o0]),ar (by rw[p3];omega),ar (by rw[e2];simp),ar (by simp[hk]),p3,aM];simp only[bY,aN];rw[ar (by omega),ar (by omega),ar (by omega),ar (by simp[c1])]
     have pF:=oL p2;rw[hm];rcases kE m.eP x.b9 0 with⟨w1,w2⟩|⟨b,w,w0,w1,w2⟩
     ·rw[w2]at kw;have hc:eJ x p m.node={p with node:=m.node}:=by
       unfold eJ;rw[pF,w1]
      have e9:=g3 j {p with node:=m.node};simp only[aK]at e9;rw[hc];simp only[rL',aa,simprocAttr,hk,d1,lP,hj,aN,aK,kw.call,e9,de,aw]
     ·rw[w2,aM]at kw;have Aw:(0:Int)<=(b:Int):=by omega
      cases iX:w.stay with
      |false =>
       have hc:eJ x p m.node={p with node:=m.node}:=by
        unfold eJ;rw[pF,w1];dsimp only;rw[ar (by rw[iX];decide)]
       have e9:=g3 j {p with node:=m.node};simp only[aK]at e9;rw[hc];simp only[rL',aa,simprocAttr,hk,d1,lP,hj,aN,aK,kw.call,Aw,w0,cj,iX,e9,de,aw]
      |true =>
       have hc:eJ x p m.node={p with node:=m.node,jU:=w.jU}:=by
        unfold eJ;rw[pF,w1];dsimp only;rw[aW iX]
       have e9:=g3 j {p with node:=m.node,jU:=w.jU};simp only[aK]at e9;have gs:∀v:List PV,((t.pods.map aK).set j v)[j]? =some v:=fun v=>by
        rw[kL (by rw[al];exact hj)]
       have ss:∀u v:List PV,(((t.pods.map aK).set j u).set j v)=(t.pods.map aK).set j v:=fun u v=>List.set_set ..
       rw[hc];simp only[rL',aa,simprocAttr,hk,d1,lP,hj,aN,aK,kw.call,Aw,w0,cj,iX,gs,ss,e9,de,aw];refine(cy rfl).2 ?_;simp only[rL',aa,simprocAttr,hk,d1,lP,hj,aN,aK,kw.call,Aw,w0,cj,iX,gs,ss,e9,de,aw,kh]
    ·have hm:bP s x t m=.inl 7:=by
      unfold bP;rw[ar (by simp[fh,hk,o0]),ar (by rw[p3];omega),ar (by rw[e2];simp),ar (by simp[hk]),p3,aM];simp only[bY,aN];rw[ar (by omega),ar (by omega),ar (by omega),aW c1]
     simp only[rL',aa,simprocAttr,hk,c1,hm,de,eB,aw,aC]
 ·have hm:bP s x t m=.inl 1:=by
   unfold bP;rw[aW (by simp[fh,hk,o0])]
  simp only[rL',aa,simprocAttr,f1,f2,hk,o0,hm,de,eB,aw,aC]
set_option maxRecDepth 100000 in
set_option maxHeartbeats 4000000 in
theorem N0(S:zJ T)(s:bc)(x:Spec)(t:State)(m:Move)(hs:s.nodes.length<=2^29)(hx:x.b9.length<=2^29)(ht:t.pods.length<=2^29)(hk:m.kind=3) :
    ba T 166 [aF s,bg x,aw t,dG m] (de (bP s x t m)):=by
 refine gives S.EX rfl ?_;have kp:=hG S.nT t m.eP (by omega);have ko:=hG S.nT t m.over (by omega);have kn:=lz S.oB s m.node (by omega);have kw:=pt S.EV x m.eP (by omega);simp only[aF,bg,aw]at kp ko kn kw;simp only[f166,rL',aa,simprocAttr,aF,bg,aw,dG,bK];have f1:¬m.kind<1:=by omega
 have f2:¬4<m.kind:=by omega
 have g3:∀(i:Nat) (q:dm),(t.pods.map aK).set i (aK q)=(t.pods.set i q).map aK:=fun i q=>(List.map_set).symm;have hlen:t.pods.length<=2^30:=by omega
 have M7:cn 8 []=true:=rfl;by_cases o0:m.over=0
 ·have d0:=bJ o0;rcases bZ m.eP t.pods 0 with⟨p1,p2⟩|⟨j,p,aN,p2,p3,hj⟩
  ·rw[p2]at kp;have hm:bP s x t m=.inl 4:=by
    unfold bP;rw[ar (by simp[fh,hk,o0]),aW (by rw[p2];decide)]
   simp only[rL',aa,simprocAttr,f1,f2,hk,d0,kp.call,ko.call,hm,de,eB,aw,aC]
  ·rw[p3,aM]at kp;have lP:¬(j:Int)<0:=by omega
   rcases ik m.node s.nodes 0 with⟨e1,e2⟩|⟨a,n,e1,e2,e3⟩
   ·rw[e2]at kn;have hm:bP s x t m=.inl 4:=by
     unfold bP;rw[ar (by simp[fh,hk,o0]),ar (by rw[p3];omega),aW ⟨by omega,e1⟩]
    simp only[rL',aa,simprocAttr,f1,f2,hk,d0,kp.call,ko.call,kn.call,lP,hm,de,eB,aw,aC]
   ·rw[e3,aM]at kn;have G4:¬(a:Int)<0:=by omega
    simp only[rL',aa,simprocAttr,f1,f2,hk,d0,kp.call,ko.call,kn.call,lP,G4,aN,aK];refine iv (ps:=[(0,1),(0,2),(0,4),(0,5),(0,6),(0,7),(0,9),(1,9),(2,9),(3,4),(3,5),(3,6),(3,7),(3,9),(4,9),(5,9),(6,9),(7,9)]) rfl ?_;simp only[rL',aa,simprocAttr,cT,bt,dV,chunk,M7,fR,eQ,hlen,aE];refine⟨by simp only[iU,uj,mF,fB,mem,keys,iJ,cu,cz,cF,aE,aI,rL',aa,simprocAttr,bB,bq],?_⟩;have Tu:IntKind.i64.wrap (t.fe+1)=IntKind.i64.wrap (t.fe+1):=rfl;by_cases c1:p.node≠0/\p.node≠m.node
    ·obtain⟨c1,c2⟩:=c1;have hm:bP s x t m=.inr ⟨t.pods.set j (eJ x p m.node),t.pre,IntKind.i64.wrap (t.fe+1)⟩:=by
      unfold bP;rw[ar (by simp[fh,hk,o0]),ar (by rw[p3];omega),ar (by rw[e2];simp),ar (by simp[hk]),p3,aM];simp only[bY,aN];rw[ar (by omega),aW hk,ar c1,ar c2]
     have pF:=oL p2;rw[hm];rcases kE m.eP x.b9 0 with⟨w1,w2⟩|⟨b,w,w0,w1,w2⟩
     ·rw[w2]at kw;have hc:eJ x p m.node={p with node:=m.node}:=by
       unfold eJ;rw[pF,w1]
      have e9:=g3 j {p with node:=m.node};simp only[aK]at e9;rw[hc];simp only[rL',aa,simprocAttr,hk,c1,c2,lP,hj,aN,aK,kw.call,e9,de,aw]
     ·rw[w2,aM]at kw;have Aw:(0:Int)<=(b:Int):=by omega
      cases iX:w.stay with
      |false =>
       have hc:eJ x p m.node={p with node:=m.node}:=by
        unfold eJ;rw[pF,w1];dsimp only;rw[ar (by rw[iX];decide)]
       have e9:=g3 j {p with node:=m.node};simp only[aK]at e9;rw[hc];simp only[rL',aa,simprocAttr,hk,c1,c2,lP,hj,aN,aK,kw.call,Aw,w0,cj,iX,e9,de,aw]
      |true =>
       have hc:eJ x p m.node={p with node:=m.node,jU:=w.jU}:=by
        unfold eJ;rw[pF,w1];dsimp only;rw[aW iX]
       have e9:=g3 j {p with node:=m.node,jU:=w.jU};simp only[aK]at e9;have gs:∀v:List PV,((t.pods.map aK).set j v)[j]? =some v:=fun v=>by
        rw[kL (by rw[al];exact hj)]
       have ss:∀u v:List PV,(((t.pods.map aK).set j u).set j v)=(t.pods.map aK).set j v:=fun u v=>List.set_set ..
       rw[hc];simp only[rL',aa,simprocAttr,hk,c1,c2,lP,hj,aN,aK,kw.call,Aw,w0,cj,iX,gs,ss,e9,de,aw];refine(cy rfl).2 ?_;simp only[rL',aa,simprocAttr,hk,c1,c2,lP,hj,aN,aK,kw.call,Aw,w0,cj,iX,gs,ss,e9,de,aw,kh]
    ·have hm:bP s x t m=.inl 7:=by
      unfold bP;rw[ar (by simp[fh,hk,o0]),ar (by rw[p3];omega),ar (by rw[e2];simp),ar (by simp[hk]),p3,aM];simp only[bY,aN];rw[ar (by omega),aW hk];by_cases q1:p.node=0
      ·rw[aW q1]
      ·have q2:p.node=m.node:=xA fun h=>c1 ⟨q1,h⟩;rw[ar q1,aW q2]
     by_cases q1:p.node=0
     ·have r1:=bJ q1;simp only[rL',aa,simprocAttr,hk,r1,hm,de,eB,aw,aC]
     ·have q2:p.node=m.node:=xA fun h=>c1 ⟨q1,h⟩;have r2:=bJ q2;simp only[rL',aa,simprocAttr,hk,q1,r2,hm,de,eB,aw,aC]
 ·have hm:bP s x t m=.inl 1:=by
   unfold bP;rw[aW (by simp[fh,hk,o0])]
  simp only[rL',aa,simprocAttr,f1,f2,hk,o0,hm,de,eB,aw,aC]
end
end
section
section
variable{T:cK}
set_option maxRecDepth 100000 in
set_option maxHeartbeats 4000000 in
theorem MZ(S:zJ T)(s:bc)(x:Spec)(t:State)(m:Move)(hs:s.nodes.length<=2^29)(hx:x.b9.length<=2^29)(ht:t.pods.length<=2^29)(hk:m.kind=2) :
    ba T 166 [aF s,bg x,aw t,dG m] (de (bP s x t m)):=by
 refine gives S.EX rfl ?_;have kp:=hG S.nT t m.eP (by omega);have ko:=hG S.nT t m.over (by omega);have kn:=lz S.oB s m.node (by omega);have kw:=pt S.EV x m.eP (by omega);simp only[aF,bg,aw]at kp ko kn kw;simp only[f166,rL',aa,simprocAttr,aF,bg,aw,dG,bK];have f1:¬m.kind<1:=by omega
 have f2:¬4<m.kind:=by omega
 have g3:∀(l:List dm) (i:Nat) (q:dm),(l.map aK).set i (aK q)=(l.set i q).map aK:=fun l i q=>(List.map_set).symm;have hlen:t.pods.length<=2^30:=by omega
 have M7:cn 8 []=true:=rfl;by_cases o0:m.over=0
 ·have d0:=bJ o0;by_cases n0:m.node=0
  ·have dn:=bJ n0;rcases bZ m.eP t.pods 0 with⟨p1,p2⟩|⟨j,p,aN,p2,p3,hj⟩
   ·rw[p2]at kp;have hm:bP s x t m=.inl 4:=by
     unfold bP;rw[ar (by simp[fh,hk,o0,n0]),aW (by rw[p2];decide)]
    simp only[rL',aa,simprocAttr,f1,f2,hk,d0,dn,kp.call,ko.call,hm,de,eB,aw,aC]
   ·rw[p3,aM]at kp;have lP:¬(j:Int)<0:=by omega
    simp only[rL',aa,simprocAttr,f1,f2,hk,d0,dn,kp.call,ko.call,lP,aN,aK];refine iv (ps:=[(0,1),(0,2),(0,4),(0,5),(0,6),(0,7),(0,9),(1,9),(2,9),(3,4),(3,5),(3,6),(3,7),(3,9),(4,9),(5,9),(6,9),(7,9)]) rfl ?_;simp only[rL',aa,simprocAttr,cT,bt,dV,chunk,M7,fR,eQ,hlen,aE];refine⟨by simp only[iU,uj,mF,fB,mem,keys,iJ,cu,cz,cF,aE,aI,rL',aa,simprocAttr,bB,bq],?_⟩;by_cases c1:p.node=0
    ·have d1:=bJ c1;have hm:bP s x t m=.inl 7:=by
      unfold bP;rw[ar (by simp[fh,hk,o0,n0]),ar (by rw[p3];omega),ar (by simp[hk]),ar (by simp[hk]),p3,aM];simp only[bY,aN];rw[aW hk,aW c1]
     simp only[rL',aa,simprocAttr,hk,d1,hm,de,eB,aw,aC]
    ·have hm:bP s x t m=.inr ⟨t.pods.set j {p with node:=0},t.pre,t.fe⟩:=by
      unfold bP;rw[ar (by simp[fh,hk,o0,n0]),ar (by rw[p3];omega),ar (by simp[hk]),ar (by simp[hk]),p3,aM];simp only[bY,aN];rw[aW hk,ar c1]
     have e9:=g3 t.pods j {p with node:=0};simp only[aK]at e9;rw[hm];simp only[rL',aa,simprocAttr,hk,c1,n0,lP,hj,aN,aK,kw.call,e9,de,aw]
  ·have hm:bP s x t m=.inl 1:=by
    unfold bP;rw[aW (by simp[fh,hk,n0])]
   simp only[rL',aa,simprocAttr,f1,f2,hk,d0,n0,hm,de,eB,aw,aC]
 ·have hm:bP s x t m=.inl 1:=by
   unfold bP;rw[aW (by simp[fh,hk,o0])]
  simp only[rL',aa,simprocAttr,f1,f2,hk,o0,hm,de,eB,aw,aC]
end
end
section
section
variable{T:cK}
set_option maxRecDepth 100000 in
set_option maxHeartbeats 4000000 in
theorem N1(S:zJ T)(s:bc)(x:Spec)(t:State)(m:Move)(hs:s.nodes.length<=2^29)(hx:x.b9.length<=2^29)(ht:t.pods.length<=2^29)(hk:m.kind=4) :
    ba T 166 [aF s,bg x,aw t,dG m] (de (bP s x t m)):=by
 refine gives S.EX rfl ?_;have kp:=hG S.nT t m.eP (by omega);have ko:=hG S.nT t m.over (by omega);have kn:=lz S.oB s m.node (by omega);have kw:=pt S.EV x m.eP (by omega);simp only[aF,bg,aw]at kp ko kn kw;simp only[f166,rL',aa,simprocAttr,aF,bg,aw,dG,bK];have f1:¬m.kind<1:=by omega
 have f2:¬4<m.kind:=by omega
 have g3:∀(l:List dm) (i:Nat) (q:dm),(l.map aK).set i (aK q)=(l.set i q).map aK:=fun l i q=>(List.map_set).symm;have hlen:t.pods.length<=2^30:=by omega
 have M7:cn 8 []=true:=rfl;rcases bZ m.eP t.pods 0 with⟨p1,p2⟩|⟨j,p,aN,p2,p3,hj⟩
 ·rw[p2]at kp;have hm:bP s x t m=.inl 4:=by
   unfold bP;rw[ar (by simp[fh,hk]),aW (by rw[p2];decide)]
  simp only[rL',aa,simprocAttr,f1,f2,hk,kp.call,ko.call,hm,de,eB,aw,aC]
 ·rw[p3,aM]at kp;have lP:¬(j:Int)<0:=by omega
  rcases ik m.node s.nodes 0 with⟨e1,e2⟩|⟨a,n,e1,e2,e3⟩
  ·rw[e2]at kn;have hm:bP s x t m=.inl 4:=by
    unfold bP;rw[ar (by simp[fh,hk]),ar (by rw[p3];omega),aW ⟨by omega,e1⟩]
   simp only[rL',aa,simprocAttr,f1,f2,hk,kp.call,ko.call,kn.call,lP,hm,de,eB,aw,aC]
  ·rw[e3,aM]at kn;have G4:¬(a:Int)<0:=by omega
   rcases bZ m.over t.pods 0 with⟨q1,q2⟩|⟨k,q,zC,q2,q3,Mw⟩
   ·rw[q2]at ko;have hm:bP s x t m=.inl 4:=by
     unfold bP;rw[ar (by simp[fh,hk]),ar (by rw[p3];omega),ar (by rw[e2];simp),aW ⟨hk,by rw[q2];decide⟩]
    simp only[rL',aa,simprocAttr,f1,f2,hk,kp.call,ko.call,kn.call,lP,G4,hm,de,eB,aw,aC]
   ·rw[q3,aM]at ko;have w9:¬(k:Int)<0:=by omega
    simp only[rL',aa,simprocAttr,f1,f2,hk,kp.call,ko.call,kn.call,lP,G4,w9,aN,aK];refine iv (ps:=[(0,1),(0,2),(0,4),(0,5),(0,6),(0,7),(0,9),(1,9),(2,9),(3,4),(3,5),(3,6),(3,7),(3,9),(4,9),(5,9),(6,9),(7,9)]) rfl ?_;simp only[rL',aa,simprocAttr,cT,bt,dV,chunk,M7,fR,eQ,hlen,aE];refine⟨by simp only[iU,uj,mF,fB,mem,keys,iJ,cu,cz,cF,aE,aI,rL',aa,simprocAttr,bB,bq],?_⟩;refine(ef rfl).2 ?_;by_cases c1:p.node=0
    ·have d1:=bJ c1;by_cases c0:j=k
     ·have dj:=bJ c0;have hm:bP s x t m=.inl 7:=by
       unfold bP;rw[ar (by simp[fh,hk]),ar (by rw[p3];omega),ar (by rw[e2];simp),ar (by rw[q3];omega),p3,q3,aM,aM];simp only[bY,aN,zC];rw[ar (by omega),ar (by omega),aW hk,aW c0]
      simp only[rL',aa,simprocAttr,hk,lP,w9,hj,Mw,aN,zC,aK,kh,d1,dj,hm,de,eB,aw,aC]
     ·by_cases c2:q.node=m.node
      ·have d2:=bJ c2;have hm:bP s x t m=.inr ⟨(t.pods.set k {q with node:=0}).set j (eJ x p m.node),IntKind.i64.wrap (t.pre+1),t.fe⟩:=by
        unfold bP;rw[ar (by simp[fh,hk]),ar (by rw[p3];omega),ar (by rw[e2];simp),ar (by rw[q3];omega),p3,q3,aM,aM];simp only[bY,aN,zC];rw[ar (by omega),ar (by omega),aW hk,ar c0,ar (by simp[c2]),ar (by simp[c1])]
       have pF:=oL p2;have Ql:(t.pods.set k {q with node:=0})[j]? =some p:=by
        rw[List.getElem?_set_ne (fun h=>c0 h.symm)];exact aN
       have ek:=g3 t.pods k {q with node:=0};simp only[aK]at ek;rw[hm];rcases kE m.eP x.b9 0 with⟨w1,w2⟩|⟨b,w,w0,w1,w2⟩
       ·rw[w2]at kw;have hc:eJ x p m.node={p with node:=m.node}:=by
         unfold eJ;rw[pF,w1]
        have e9:=g3 (t.pods.set k {q with node:=0}) j {p with node:=m.node};simp only[aK]at e9;rw[hc];simp only[rL',aa,simprocAttr,hk,lP,w9,hj,Mw,aN,zC,aK,kh,d1,c0,d2,ek,Ql,kw.call,e9,de,aw]
       ·rw[w2,aM]at kw;have Aw:(0:Int)<=(b:Int):=by omega
        cases iX:w.stay with
        |false =>
         have hc:eJ x p m.node={p with node:=m.node}:=by
          unfold eJ;rw[pF,w1];dsimp only;rw[ar (by rw[iX];decide)]
         have e9:=g3 (t.pods.set k {q with node:=0}) j {p with node:=m.node};simp only[aK]at e9;rw[hc];simp only[rL',aa,simprocAttr,hk,lP,w9,hj,Mw,aN,zC,aK,kh,d1,c0,d2,ek,Ql,kw.call,Aw,w0,cj,iX,e9,de,aw]
        |true =>
         have hc:eJ x p m.node={p with node:=m.node,jU:=w.jU}:=by
          unfold eJ;rw[pF,w1];dsimp only;rw[aW iX]
         have e9:=g3 (t.pods.set k {q with node:=0}) j {p with node:=m.node,jU:=w.jU};simp only[aK]at e9;have gs:∀v:List PV,(((t.pods.set k {q with node:=0}).map aK).set j v)[j]? =some v:=fun v=>by
          rw[kL (by rw[al,kh];exact hj)]
         have ss:∀u v:List PV,((((t.pods.set k {q with node:=0}).map aK).set j u).set j v)=((t.pods.set k {q with node:=0}).map aK).set j v:=fun u v=>List.set_set ..
         rw[hc];simp only[rL',aa,simprocAttr,hk,lP,w9,hj,Mw,aN,zC,aK,kh,d1,c0,d2,ek,Ql,kw.call,Aw,w0,cj,iX,gs,ss,e9,de,aw];refine(cy rfl).2 ?_;simp only[rL',aa,simprocAttr,hk,lP,w9,hj,Mw,aN,zC,aK,kh,d1,c0,d2,ek,Ql,kw.call,Aw,w0,cj,iX,gs,ss,e9,de,aw]
      ·have hm:bP s x t m=.inl 7:=by
        unfold bP;rw[ar (by simp[fh,hk]),ar (by rw[p3];omega),ar (by rw[e2];simp),ar (by rw[q3];omega),p3,q3,aM,aM];simp only[bY,aN,zC];rw[ar (by omega),ar (by omega),aW hk,ar c0,aW c2]
       simp only[rL',aa,simprocAttr,hk,lP,w9,hj,Mw,aN,zC,aK,kh,d1,c0,c2,hm,de,eB,aw,aC]
    ·have hm:bP s x t m=.inl 7:=by
      unfold bP;rw[ar (by simp[fh,hk]),ar (by rw[p3];omega),ar (by rw[e2];simp),ar (by rw[q3];omega),p3,q3,aM,aM];simp only[bY,aN,zC];rw[ar (by omega),ar (by omega),aW hk];by_cases c0:j=k
      ·rw[aW c0]
      ·rw[ar c0];by_cases c2:q.node=m.node
       ·rw[ar (by simp[c2]),aW c1]
       ·rw[aW c2]
     simp only[rL',aa,simprocAttr,hk,lP,w9,hj,Mw,aN,zC,aK,kh,c1,hm,de,eB,aw,aC]
theorem ES{m:Move}(h:m.kind<1\/4<m.kind):fh m=false:=by
 have h2:¬m.kind=2:=by omega
 have h3:¬(m.kind=1\/m.kind=3):=by omega
 have h4:¬m.kind=4:=by omega
 simp only[fh,h2,h3,h4,aJ,pd]
theorem x8{s:bc}{x:Spec}{t:State}{m:Move}(h:m.kind<1\/4<m.kind):bP s x t m=.inl 1:=by
 unfold bP;rw[aW (ES h)]
set_option maxRecDepth 100000 in
set_option maxHeartbeats 4000000 in
theorem HN(S:zJ T)(s:bc)(x:Spec)(t:State)(m:Move)(hs:s.nodes.length<=2^29)(hx:x.b9.length<=2^29)(ht:t.pods.length<=2^29) :
    ba T 166 [aF s,bg x,aw t,dG m] (de (bP s x t m)):=by
 by_cases f1:m.kind<1
 ·rw[x8 (.inl f1)];refine gives S.EX rfl ?_;simp only[f166,rL',aa,simprocAttr,aF,bg,aw,dG,bK,f1,de,eB,aC]
 ·by_cases f2:4<m.kind
  ·rw[x8 (.inr f2)];refine gives S.EX rfl ?_;simp only[f166,rL',aa,simprocAttr,aF,bg,aw,dG,bK,f1,f2,de,eB,aC]
  ·obtain hk|hk|hk|hk:m.kind=1\/m.kind=2\/m.kind=3\/m.kind=4:=by omega
   ·exact MY S s x t m hs hx ht hk
   ·exact MZ S s x t m hs hx ht hk
   ·exact N0 S s x t m hs hx ht hk
   ·exact N1 S s x t m hs hx ht hk
end
end

theorem Jn{s:bc}{x:Spec}{t:State}(hn:s.nodes.length<=500)(Ax:t.pods.length<=500):(mg s x t).length<=2^29:=by
 have lp:(nU (t.pods.map dm.id)).length<=500:=by have:=tz (t.pods.map dm.id);rw[al]at this;omega
 have ln:(nU (s.nodes.map Node.id)).length<=500:=by have:=tz (s.nodes.map Node.id);rw[al]at this;omega
 exact cG (rk ..) (og _ _ lp ln)
section
def Bo(b:Nat):Nat->Nat
 |0=>0
 |n+1=>1+b*Bo b n
def oS(b:Nat):Nat->Nat->Nat->Nat
 |0,sum,_=>sum
 |k+1,sum,pw=>if 1000000<sum+pw\/1000000<b*pw then 1000000 else oS b k (sum+pw) (b*pw)
theorem xk(b:Nat):∀(k sum pw:Nat),oS b k sum pw<=5000->oS b k sum pw=sum+pw*Bo b k
 |0,sum,pw,_=>by simp[oS,Bo]
 |k+1,sum,pw,h=>by
  unfold oS at h⊢;split at h
  ·omega
  ·rename_i hc;rw[ar hc,xk b k _ _ h,Bo,Nat.mul_add,Nat.mul_one,Nat.mul_comm b pw,Nat.mul_assoc];omega
def branch(p n:Nat):Nat:=2*p*n+p+p*p*n
theorem Ex(pods nodes:List Int):(jW pods nodes).length=branch pods.length nodes.length:=by
 have e1:∀(l:List Int) (f:Int->Int->Move),(l.flatMap fun p=>nodes.map fun n=>f p n).length=l.length*nodes.length:=fun l f=>by
  induction l with
  |nil=>simp
  |cons a r ih=>rw[eN,aG,ih,al,ay,dq];omega
 have e2:∀(p:Int) (l:List Int),(l.flatMap fun n=>pods.map fun q=>(⟨4,p,n,q⟩:Move)).length=l.length*pods.length:=fun p l=>by
  induction l with
  |nil=>simp
  |cons a r ih=>rw[eN,aG,ih,al,ay,dq];omega
 have e3:∀l:List Int,(l.flatMap fun p=>nodes.flatMap fun n=>pods.map fun q=>(⟨4,p,n,q⟩:Move)).length=l.length*(nodes.length*pods.length):=fun l=>by
  induction l with
  |nil=>simp
  |cons a r ih=>rw[eN,aG,ih,e2,ay,dq];omega
 simp only[jW,aG,e1 pods (fun p n=>⟨1,p,n,0⟩),e1 pods (fun p n=>⟨3,p,n,0⟩),e3,al,branch];rw[Nat.mul_assoc 2,Nat.mul_assoc pods.length pods.length,Nat.mul_comm nodes.length pods.length];omega
theorem Gr{s:bc}{x:Spec}{t:State}:(pC s x t).length<=branch t.pods.length s.nodes.length:=by
 refine cG (List.length_filterMap_le _ _) ?_;unfold qD;rw[Ex];have h1:=eU (t.pods.map dm.id);have h2:=eU (s.nodes.map Node.id);rw[al]at h1 h2;unfold branch;have a:=jM (Nat.mul_le_mul_left 2 h1) h2;have b:=jM (jM h1 h1) h2;omega
def FA(b D:Nat):List (List (Move×State))->Nat->Nat
 |[],_=>0
 |f::r,n=>f.length*Bo b (D-n-1)+FA b D r (n-1)
theorem AW{b D:Nat}{t:State}:∀{st:List (List (Move×State))} {w w':List Move} {bT:List (List (Move×State))},st.length=w.length+1->eY st w=some (t,w',bT)->FA b D st w.length=Bo b (D-w'.length)+FA b D bT (w'.length-1)
 |[],_,_,_,_,h=>by simp[eY]at h
 |[]::r,w,w',bT,hl,h=>by
  simp only[eY]at h;simp only[ay]at hl;have hw:w≠[]:=fun h0=>by
   subst h0;have:r=[]:=bX (by simpa using hl);subst this;simp[eY]at h
  have h1:0<w.length:=zF.2 hw;have:=AW (b:=b) (D:=D) (by rw[PX];omega) h;rw[PX]at this;simp only[FA,bM,Nat.zero_mul,aM];exact this
 |((m,v)::f)::r,w,w',bT,hl,h=>by
  simp only[eY,ai,aZ]at h;obtain⟨rfl,rfl,rfl⟩:=h;simp only[FA,ay,aG,bM,aM,Nat.add_sub_cancel,dq,Nat.one_mul];rw[show D-(w.length+1)=D-w.length-1 by omega];omega
theorem EF{s:bc}{x:Spec}{D b:Nat}{steps:Nat}{k k':Sk}{t:State}(hb:(pC s x t).length<=b)(h:gF s x D steps k t=.go k'):k'.spent+FA b D k'.stack k.gK.length<=k.spent+FA b D k.stack (k.gK.length-1)+Bo b (D-k.gK.length):=by
 unfold gF at h;split at h
 ·simp at h
 ·rename_i hg;split at h
  ·simp only[tJ.go.injEq]at h;subst h;simp only[FA,bM,Nat.zero_mul,aM];omega
  ·rename_i hc;split at h
   ·simp at h
   ·simp only[tJ.go.injEq]at h;subst h;have hf:=yK hg;have hl:¬(D:Int)-k.gK.length<la x t:=fun hh=>hc (.inl hh);obtain⟨e,he⟩:∃e,D-k.gK.length=e+1:=⟨D-k.gK.length-1,by omega⟩;simp only[FA];rw[he,Nat.add_sub_cancel,Bo];have:=cQ (Bo b e) hb;omega
theorem Rn.FA{s:bc}{x:Spec}{D b steps:Nat}(hs:s.wf)(hx:∀w∈x.b9,w.wf)(hb:b=branch s.pods.length s.nodes.length){k:Sk}{t:State}(h:Rn s x D steps k t):k.spent+Go.Proofs.YtkjehofblipcaaaGreatDoor.Ab.FA b D k.stack (k.gK.length-1)+Bo b (D-k.gK.length)<=Bo b D:=by
 induction h with
 |init=>simp[Go.Proofs.YtkjehofblipcaaaGreatDoor.Ab.FA]
 | @step k k' t u w st h he hn ih =>
  have I:=h.inv (lZ D);obtain⟨e1,e2,e3,e4⟩:=I.enter he;have hR:=(h.rs hs hx).1;have h1:=EF (b:=b) (by rw[hb,<-hR.2];exact Gr) he;have h2:=AW (b:=b) (D:=D) e2 hn;rw[e1]at h2;dsimp only;omega
theorem Fp{s:bc}{x:Spec}{D steps:Nat}(hs:s.wf)(hx:∀w∈x.b9,w.wf)(iX:Bo (branch s.pods.length s.nodes.length) D<=steps){l:List Move}{n:Nat}:¬Vd s x D steps 3 l n:=by
 intro h;cases h with
 | @spent k t h he =>
  have h1:=h.FA hs hx rfl;unfold gF at he;split at he
  ·simp at he
  ·rename_i hg;split at he
   ·simp at he
   ·rename_i hc;split at he
    ·rename_i Hu;have hf:=yK hg;have hl:¬(D:Int)-k.gK.length<la x t:=fun hh=>hc (.inl hh);obtain⟨e,Um⟩:∃e,D-k.gK.length=e+1:=⟨D-k.gK.length-1,by omega⟩;rw[Um,Bo]at h1;omega
    ·simp at he
section
variable{T:cK}
theorem FJ{b most:Nat}(hb:b<=1000)(hm:most<=1000)(Q:Exit->St->Prop)(o:Nat){hp:Hl}{nx:Nat}
    (bS:∀fr,look fr 8=.pv (.int .i64 (o:Nat))->Q (.exit 0) ⟨fr,hp,nx⟩) (dK:∀fr,look fr 6=.pv (.int .i64 (o:Nat))->Q .ret ⟨fr,hp,nx⟩) :
    ∀(k i sum pw:Nat),i+k=most+1->oS b k sum pw=o->sum<=1000000->pw<=1000000->∀(fr:List (Nat×AV)),look fr 2=.pv (.int .i64 (most:Nat))->look fr 7=.pv (.int .i64 (b:Nat))->look fr 8=.pv (.int .i64 (sum:Nat))->look fr 9=.pv (.int .i64 (pw:Nat))->look fr 10=.pv (.int .i64 (i:Nat))->Wp T false (.loop yt) ⟨fr,hp,nx⟩ Q:=by
 intro k;induction k with
 |zero =>
  intro i sum pw hi ho hs tx fr g2 g7 g8 g9 te;have hc:¬((i:Nat):Int)<=((most:Nat):Int):=by omega
  simp only[oS]at ho;subst ho;rw[az,aY yt.eq_1];simp only[rL',aa,simprocAttr,g2,te,hc];refine bS _ ?_
  all_goals try simp only[aj,Nat.reduceEqDiff,g8]
 |succ k ih =>
  intro i sum pw hi ho hs tx fr g2 g7 g8 g9 te;have hc:((i:Nat):Int)<=((most:Nat):Int):=by omega
  have Vv:b*pw<=1000*1000000:=jM hb tx;have w1:IntKind.i64.wrap ((sum:Int)+(pw:Int))=((sum+pw:Nat):Int):=by rw[dS] <;>omega
  have w2:IntKind.i64.wrap ((pw:Int)*(b:Int))=((b*pw:Nat):Int):=by
   have:((pw:Int)*(b:Int))=((b*pw:Nat):Int):=by rw[Nat.mul_comm];simp
   rw[this,dS] <;>omega
  have SK:IntKind.i64.wrap ((b:Int)*(pw:Int))=((b*pw:Nat):Int):=by
   rw[Int.mul_comm];exact w2
  have w3:IntKind.i64.wrap ((i:Int)+1)=((i+1:Nat):Int):=by rw[dS] <;>omega
  unfold oS at ho;rw[az,aY yt.eq_1];by_cases c1:1000000<sum+pw
  ·rw[aW (.inl c1)]at ho;have Bl:(1000000:Int)<((sum+pw:Nat):Int):=by omega
   simp only[rL',aa,simprocAttr,g2,g7,g8,g9,te,hc,w1,w2,SK,Bl];refine dK _ ?_;rw[<-ho]
   all_goals try simp only[aj,Nat.reduceEqDiff,]
   rfl
  ·have Bl:¬(1000000:Int)<((sum+pw:Nat):Int):=by omega
   by_cases c2:1000000<b*pw
   ·rw[aW (.inr c2)]at ho;have pW:(1000000:Int)<((b*pw:Nat):Int):=by omega
    simp only[rL',aa,simprocAttr,g2,g7,g8,g9,te,hc,w1,w2,SK,Bl,pW];refine dK _ ?_;rw[<-ho]
    all_goals try simp only[aj,Nat.reduceEqDiff,]
    rfl
   ·rw[ar (by omega)]at ho;have pW:¬(1000000:Int)<((b*pw:Nat):Int):=by omega
    simp only[rL',aa,simprocAttr,g2,g7,g8,g9,te,hc,w1,w2,SK,w3,Bl,pW];refine ih (i+1) (sum+pw) (b*pw) (by omega) ho (by omega) (by omega) _ ?_ ?_ ?_ ?_ ?_
    ·all_goals try simp only[aj,Nat.reduceEqDiff,g2]
    ·all_goals try simp only[aj,Nat.reduceEqDiff,g7]
    ·all_goals try simp only[aj,Nat.reduceEqDiff,]
    ·all_goals try simp only[aj,Nat.reduceEqDiff,]
    ·all_goals try simp only[aj,Nat.reduceEqDiff,]
end
end
section
theorem LH:∀(l m:List Int),l.Nodup->(∀a∈l,a∈m)->l.length<=m.length
 |[],m,_,_=>aO _
 |a::r,m,h,hm=>by
  rw[List.nodup_cons]at h;have h1:=hm a (bN ..);have h2:=List.length_pos_of_mem h1;have:=LH r (m.erase a) h.2 (fun b hb=>(List.mem_erase_of_ne (fun e=>h.1 (by rw[<-e];exact hb))).2 (hm b (bd _ hb)));rw[List.length_erase_of_mem h1]at this;simp only[ay];omega
theorem BU{α:Type}{xs:List α}{i:Nat}{a:α}{r:List α}(h:xs.drop i=a::r)(hl:i<=2^30) :
    xs[i]? =some a/\(i:Int)<(xs.length:Int)/\IntKind.i64.wrap ((i:Int)+1)=((i+1:Nat):Int)/\xs.drop (i+1)=r/\i+1<=xs.length/\i<=2^30:=by
 have h1:xs[i]? =some a:=by
  have:=da (·[0]?) h;simpa using this
 have h2:i<xs.length:=(aA.1 h1).1;refine⟨h1,by omega,?_,by rw[<-iE,h];rfl,h2,hl⟩;rw[dS] <;>omega
def lM(pods:List dm)(prev:Option Want)(i:Nat):Prop:=∃ps:List Int,ps.length=i/\ps.Nodup/\(∀q∈ps,q∈pods.map (·.id))/\∀q∈ps,∃v,prev=some v/\q<=v.eP
theorem lM.nil{pods:List dm}{prev:Option Want}:lM pods prev 0:=⟨[],rfl,by simp,by simp,by simp⟩
theorem lM.le{pods:List dm}{prev:Option Want}{i:Nat}(h:lM pods prev i):i<=pods.length:=by
 obtain⟨ps,rfl,h1,h2,_⟩:=h;have:=LH ps _ h1 h2;rwa [al]at this
theorem lM.next{pods:List dm}{prev:Option Want}{i:Nat}{w:Want}(h:lM pods prev i)(hb:ep pods prev w=0):lM pods (some w) (i+1):=by
 obtain⟨ps,rfl,h1,h2,h3⟩:=h;have key:ga pods w=0/\∀q∈ps,q<w.eP:=by
  cases prev with
  |none =>
   refine⟨hb,fun q hq=>?_⟩;obtain⟨v,e,_⟩:=h3 q hq;simp at e
  |some v =>
   simp only[ep]at hb;split at hb
   ·simp at hb
   ·split at hb
    ·simp at hb
    ·refine⟨hb,fun q hq=>?_⟩;obtain⟨v',e,h4⟩:=h3 q hq;simp only[ai]at e;subst e;omega
 have Lu:w.eP∈pods.map (·.id):=by
  have h0:=key.1;unfold ga at h0;split at h0
  ·simp at h0
  ·rename_i hn;cases hp:eS w.eP pods with
   |none=>exact absurd hp hn
   |some p =>
    unfold eS at hp;have e:=List.find?_some hp;simp only[bI]at e;exact cw.2 ⟨p,List.mem_of_find?_eq_some hp,e⟩
 refine⟨w.eP::ps,rfl,List.nodup_cons.2 ⟨fun hm=>absurd (key.2 _ hm) (aP _),h1⟩,fun q hq=>?_,fun q hq=>⟨w,rfl,?_⟩⟩
 ·rcases aQ.1 hq with rfl|hq
  ·exact Lu
  ·exact h2 q hq
 ·rcases aQ.1 hq with rfl|hq
  ·exact J9 _
  ·exact Int.le_of_lt (key.2 q hq)
section
variable{T:cK}
theorem C1(Hb:Std T 156 f156)(s:bc)(x:Spec)(Ca:s.pods.length<=2^30)(Q:Exit->St->Prop)(o:Option (Int×Int))
    (bS:o=none->∀fr hp nx,Q (.exit 0) ⟨fr,hp,nx⟩)
    (dK:∀c a,o=some (c,a)->∀fr hp nx,look fr 4=.pv (.int .i64 c)->look fr 5=.pv (.int .i64 a)->Q .ret ⟨fr,hp,nx⟩) :
    ∀(rest:List Want) (i:Nat) (prev:Option Want),x.b9.drop i=rest->i<=x.b9.length->((i=0/\prev=none)\/∃j v,i=j+1/\prev=some v/\x.b9[j]? =some v)->lM s.pods prev i->eV s.pods prev i rest=o->∀(fr:List (Nat×AV)) (hp:Hl) (nx:Nat),2<=nx->look fr 2=.ptr 0 0 0->look fr 3=.ptr 1 0 0 ->
     ah hp 0=.var [.pv (.slice (s.nodes.map bC)),.pv (.slice (s.aT.map bO)),.pv (.slice (s.pods.map aK))]->ah hp 1=.var [.pv (.slice (x.b9.map cj)),.pv (.int .i64 x.pre),.pv (.int .i64 x.fe)] ->
     look fr 8=.pv (.int .i64 i)->Wp T false (.loop nj) ⟨fr,hp,nx⟩ Q:=by
 intro rest;induction rest with
 |nil =>
  intro i prev hd hi DI Lu ho fr hp nx ie g2 g3 b0 b1 h8;have hlen:=drop_nil hd hi;rw[az,aY nj.eq_1];simp only[rL',aa,simprocAttr,g3,b1,h8,hlen,aP];exact bS ho.symm _ _ _
 |cons w r ih =>
  intro i prev hd hi DI Lu ho fr hp nx ie g2 g3 b0 b1 h8;obtain⟨aN,hlt,hw,dh,cW,Bp⟩:=BU hd (cG Lu.le Ca);have n0:¬nx=0:=by omega
  have n1:¬nx=1:=by omega
  have m0:¬nx+1=0:=by omega
  have m1:¬nx+1=1:=by omega
  have k:=KH Hb s w.eP (by assumption);simp only[aF]at k;simp only[eV]at ho;have fin:∀c,ep s.pods prev w=c->c≠0->∀fr hp nx,look fr 4=.pv (.int .i64 c)->look fr 5=.pv (.int .i64 i)->Q .ret ⟨fr,hp,nx⟩:=by
   intro c h1 h2;refine dK c _ ?_;rw[<-ho,h1,aW h2]
  have CE:ep s.pods prev w=0->∀fG hp' cC,2<=cC->look fG 2=look fr 2->look fG 3=look fr 3->ah hp' 0=ah hp 0->ah hp' 1=ah hp 1->look fG 8=.pv (.int .i64 ((i+1:Nat):Int))->Wp T false (.loop nj) ⟨fG,hp',cC⟩ Q:=by
   intro h1 fG hp' cC q1 q2 q3 q4 q5 q6;refine ih (i+1) (some w) dh cW (.inr ⟨i,w,rfl,rfl,aN⟩) (Lu.next h1) ?_ fG hp' cC q1 (q2.trans g2) (q3.trans g3) (q4.trans b0) (q5.trans b1) q6;rw[<-ho,h1,ar (by simp)];rfl
  have rest:ep s.pods prev w=ga s.pods w->(¬∃v,prev=some v/\(w.eP=v.eP\/w.eP<v.eP))->Wp T false (.loop nj) ⟨fr,hp,nx⟩ Q:=by
   intro hb qW;have start:∀(K:Prop),(∀(hj:i=0/\prev=none),K)->(∀j v,i=j+1->prev=some v->x.b9[j]? =some v->¬w.eP=v.eP->¬w.eP<v.eP->K)->K:=by
    intro K h1 h2;rcases DI with h|⟨j,v,e1,e2,e3⟩
    ·exact h1 h
    ·exact h2 j v e1 e2 e3 (fun h=>qW ⟨v,e2,.inl h⟩) (fun h=>qW ⟨v,e2,.inr h⟩)
   refine start _ (fun hj=>?_) (fun j v e1 e2 e3 e4 e5=>?_)
   ·obtain⟨rfl,_⟩:=hj;have z0:((0:Nat):Int)=0:=rfl;rw[z0]at h8 hw hlt;rw[az,aY nj.eq_1];simp only[rL',aa,simprocAttr,g2,g3,b0,b1,h8,hlt,aN,cj,n0,n1];refine(cy rfl).2 ?_;simp only[rL',aa,simprocAttr,g2,g3,b0,b1,h8,hlt,aN,cj,n0,n1];refine(cy rfl).2 ?_;simp only[rL',aa,simprocAttr,g2,g3,b0,b1,h8,hlt,aN,cj,n0,n1,k.call];unfold ga at hb;by_cases q1:eS w.eP s.pods=none
    ·rw[aW q1]at hb;rcases bZ w.eP s.pods 0 with⟨p1,p2⟩|⟨j,p,p1,p2,p3,p4⟩
     ·simp only[rL',aa,simprocAttr,p2,h8,Int.reduceNeg,Int.reduceLT];refine fin _ hb (by decide) _ _ _ ?_ ?_
      all_goals try simp only[aj,Nat.reduceEqDiff,z0]
     ·rw[q1]at p2;simp at p2
    ·rw[ar q1]at hb;rcases bZ w.eP s.pods 0 with⟨p1,p2⟩|⟨j,p,p1,p2,p3,p4⟩
     ·exact absurd p1 q1
     ·have hj:¬((0+j:Nat):Int)<0:=by omega
      have C9:¬(j:Int)<0:=by omega
      cases q2:w.stay
      ·rw[q2]at hb;have hv:=pL w.jU cE;by_cases q3:w.jU=cE
       ·rw[ar (by simp[q3])]at hb;rw[bJ q3]at hv;simp only[cE]at hv;simp only[rL',aa,simprocAttr,p3,hj,C9,hv,h8,hw,n0,n1,q2];refine CE hb _ _ _ (by omega) ?_ ?_ ?_ ?_ ?_
        all_goals try simp only[aj,Nat.reduceEqDiff,g2,g3,n0,n1,b0,b1]
        all_goals try rfl
       ·rw[aW ⟨rfl,q3⟩]at hb;rw[TZ q3]at hv;simp only[cE]at hv;simp only[rL',aa,simprocAttr,p3,hj,C9,hv,h8,n0,n1,q2];refine fin _ hb (by decide) _ _ _ ?_ ?_
        all_goals try simp only[aj,Nat.reduceEqDiff,z0]
      ·rw[q2,ar (by simp)]at hb;simp only[rL',aa,simprocAttr,p3,hj,C9,h8,hw,n0,n1,q2];refine CE hb _ _ _ (by omega) ?_ ?_ ?_ ?_ ?_
       all_goals try simp only[aj,Nat.reduceEqDiff,g2,g3,n0,n1,b0,b1]
       all_goals try rfl
   ·subst e1;have w1:IntKind.i64.wrap (((j+1:Nat):Int)-1)=(j:Int):=by rw[dS] <;>omega
    have p0:(0:Int)<((j+1:Nat):Int):=by omega
    rw[az,aY nj.eq_1];simp only[rL',aa,simprocAttr,g2,g3,b0,b1,h8,hlt,aN,cj,n0,n1];refine(cy rfl).2 ?_;simp only[rL',aa,simprocAttr,g2,g3,b0,b1,h8,hlt,aN,cj,n0,n1,e3,w1,p0,e4];refine(cy rfl).2 ?_;simp only[rL',aa,simprocAttr,g2,g3,b0,b1,h8,hlt,aN,cj,n0,n1,k.call,e3,w1,p0,e5];unfold ga at hb;by_cases q1:eS w.eP s.pods=none
    ·rw[aW q1]at hb;rcases bZ w.eP s.pods 0 with⟨p1,p2⟩|⟨j,p,p1,p2,p3,p4⟩
     ·simp only[rL',aa,simprocAttr,p2,h8,Int.reduceNeg,Int.reduceLT];refine fin _ hb (by decide) _ _ _ ?_ ?_
      all_goals try simp only[aj,Nat.reduceEqDiff,]
     ·rw[q1]at p2;simp at p2
    ·rw[ar q1]at hb;rcases bZ w.eP s.pods 0 with⟨p1,p2⟩|⟨j',p,p1,p2,p3,p4⟩
     ·exact absurd p1 q1
     ·have hj:¬((0+j':Nat):Int)<0:=by omega
      have C9:¬(j':Int)<0:=by omega
      cases q2:w.stay
      ·rw[q2]at hb;have hv:=pL w.jU cE;by_cases q3:w.jU=cE
       ·rw[ar (by simp[q3])]at hb;rw[bJ q3]at hv;simp only[cE]at hv;simp only[rL',aa,simprocAttr,p3,hj,C9,hv,h8,hw,n0,n1,q2];refine CE hb _ _ _ (by omega) ?_ ?_ ?_ ?_ ?_
        all_goals try simp only[aj,Nat.reduceEqDiff,g2,g3,n0,n1,b0,b1]
        all_goals try rfl
       ·rw[aW ⟨rfl,q3⟩]at hb;rw[TZ q3]at hv;simp only[cE]at hv;simp only[rL',aa,simprocAttr,p3,hj,C9,hv,h8,n0,n1,q2];refine fin _ hb (by decide) _ _ _ ?_ ?_
        all_goals try simp only[aj,Nat.reduceEqDiff,]
      ·rw[q2,ar (by simp)]at hb;simp only[rL',aa,simprocAttr,p3,hj,C9,h8,hw,n0,n1,q2];refine CE hb _ _ _ (by omega) ?_ ?_ ?_ ?_ ?_
       all_goals try simp only[aj,Nat.reduceEqDiff,g2,g3,n0,n1,b0,b1]
       all_goals try rfl
  rcases DI with⟨rfl,rfl⟩|⟨j,v,rfl,rfl,hv⟩
  ·exact rest rfl (by rintro⟨v,h,_⟩;simp at h)
  ·have w1:IntKind.i64.wrap (((j+1:Nat):Int)-1)=(j:Int):=by rw[dS] <;>omega
   have p0:(0:Int)<((j+1:Nat):Int):=by omega
   by_cases h5:w.eP=v.eP
   ·have d5:=bJ h5;have hb:ep s.pods (some v) w=5:=by simp only[ep];rw[aW h5]
    rw[az,aY nj.eq_1];simp only[rL',aa,simprocAttr,g2,g3,b0,b1,h8,hlt,aN,cj,n0,n1];refine(cy rfl).2 ?_;simp only[rL',aa,simprocAttr,g2,g3,b0,b1,h8,hlt,aN,cj,n0,n1,hv,w1,p0,d5];refine fin _ hb (by decide) _ _ _ ?_ ?_
    all_goals try simp only[aj,Nat.reduceEqDiff,]
   ·by_cases h6:w.eP<v.eP
    ·have hb:ep s.pods (some v) w=1:=by simp only[ep];rw[ar h5,aW h6]
     rw[az,aY nj.eq_1];simp only[rL',aa,simprocAttr,g2,g3,b0,b1,h8,hlt,aN,cj,n0,n1];refine(cy rfl).2 ?_;simp only[rL',aa,simprocAttr,g2,g3,b0,b1,h8,hlt,aN,cj,n0,n1,hv,w1,p0,h5];refine(cy rfl).2 ?_;simp only[rL',aa,simprocAttr,g2,g3,b0,b1,h8,hlt,aN,cj,n0,n1,hv,w1,p0,h6];refine fin _ hb (by decide) _ _ _ ?_ ?_
     all_goals try simp only[aj,Nat.reduceEqDiff,]
    ·refine rest (by simp only[ep];rw[ar h5,ar h6]) ?_
     rintro⟨v',h,h'⟩
     simp only[ai]at h;subst h;rcases h' with h'|h'
     ·exact h5 h'
     ·exact h6 h'
theorem EI(S:zI T)(Ra:Std T 152 f152)(Hb:Std T 156 f156)(s:bc)(x:Spec):ba T 152 [aF s,bg x] (jO (gN s x)):=by
 refine gives Ra rfl ?_;have k:=BO S s;simp only[aF]at k;have kr:=wI s;unfold gN;cases hc:gp s with
 |some e =>
  obtain⟨c,a⟩:=e;have:=kr c a hc;have RK:¬c=0:=by omega
  rw[hc]at k;simp only[jO]at k⊢;simp only[f152,rL',aa,simprocAttr,aF,bg,k.call,RK]
 |none =>
  have hs:s.pods.length<=2^30:=by
   unfold gp at hc;split at hc
   ·rename_i hz;simp only[kI,bj,bI]at hz;omega
   ·simp at hc
  rw[hc]at k;simp only[jO]at k;simp only;by_cases c1:x.pre<0
  ·rw[ar (by omega)];simp only[f152,rL',aa,simprocAttr,aF,bg,k.call,c1,jO]
  ·by_cases c2:40<x.pre
   ·rw[ar (by omega)];simp only[f152,rL',aa,simprocAttr,aF,bg,k.call,c1,c2,jO]
   ·by_cases c3:x.fe<0
    ·rw[ar (by omega)];simp only[f152,rL',aa,simprocAttr,aF,bg,k.call,c1,c2,c3,jO]
    ·by_cases c4:40<x.fe
     ·rw[ar (by omega)];simp only[f152,rL',aa,simprocAttr,aF,bg,k.call,c1,c2,c3,c4,jO]
     ·rw[aW (by omega)];simp only[f152,rL',aa,simprocAttr,aF,bg,k.call,c1,c2,c3,c4];refine C1 Hb s x hs _ (eV s.pods none 0 x.b9) (fun ho fr hp nx=>?_) (fun c a ho fr hp nx g4 g5=>?_) x.b9 0 none rfl (aO _) (.inl ⟨rfl,rfl⟩) .nil rfl _ _ _ (ax _) rfl rfl rfl rfl rfl
      ·simp only[rL',aa,simprocAttr,ho,jO]
      ·simp only[rL',aa,simprocAttr,ho,g4,g5,jO]
end
end
def l19b:List (Nat×bf):=[(118,f118),(16,f16),(54,f54),(55,f55),(68,f68),(69,f69),(70,f70),(71,f71),(72,f72),(76,f76),(77,f77),(78,f78),(79,f79),(80,f80),(81,f81),(82,f82),(83,f83),(84,f84),(85,f85),(86,f86),(87,f87),(88,f88),(89,f89),(90,f90),(91,f91),(102,f102),(121,f121),(122,f122),(140,f140),(141,f141),(142,f142),(143,f143),(144,f144),(145,f145),(148,f148),(150,f150),(151,f151),(152,f152),(153,f153),(154,f154),(155,f155),(156,f156),(157,f157),(158,f158),(159,f159),(160,f160),(164,f164),(165,f165),(166,f166),(167,f167),(169,f169),(170,f170),(171,f171),(172,f172),(173,f173),(174,f174),(175,f175),(176,f176),(177,f177),(178,f178),(179,f179),(180,f180),(181,f181),(182,f182),(184,f184),(185,f185),(186,f186),(187,f187),(188,f188),(189,f189),(209,f209),(210,f210),(211,f211),(212,f212),(213,f213),(214,f214),(215,f215),(216,f216),(217,f217),(218,f218),(219,f219),(220,f220),(221,f221),(222,f222),(223,f223),(224,f224),(225,f225),(226,f226),(227,f227),(228,f228),(229,f229),(233,f233),(234,f234),(235,f235),(236,f236),(237,f237),(238,f238),(239,f239),(240,f240),(242,f242),(243,f243),(244,f244),(245,f245),(246,f246),(248,f248),(255,f255),(257,f257),(258,f258),(259,f259),(260,f260),(261,f261),(264,f264),(282,f282),(287,f287)]
def p19b:List (Nat×Gd):=[(103,Sm),(256,sy),(266,zU),(277,iT 4),(279,iT 8),(281,oj),(290,qJ mostL),(291,qJ leastL),(293,oU)]
def T19b:cK:=LX l19b [16,54,55,77,78,79,214,215,216,242,266,281,293] [143,238,260,282,287,290,291] [277,279] [122,233] p19b
theorem LY:ba T19b 122 [] (.bool true):=⟨rfl,rfl,none,BM (k:=200) (by decide +kernel)⟩
theorem QJ:wB T19b where
 Qy:={
  s6:=⟨⟨⟨rfl,rfl,rfl,rfl,rfl⟩,⟨rfl,rfl,rfl,rfl,rfl⟩,⟨rfl,rfl,rfl⟩,⟨rfl,rfl,rfl,rfl,rfl⟩⟩,⟨rfl,rfl,rfl,rfl,rfl⟩,⟨rfl,rfl,rfl,rfl,rfl⟩,⟨rfl,rfl,rfl,rfl,rfl⟩,⟨rfl,rfl,rfl,rfl,rfl⟩,⟨rfl,rfl,rfl,rfl,rfl⟩,rfl⟩
  s8:=⟨⟨rfl,rfl,rfl,rfl,⟨rfl,rfl,rfl,rfl,rfl⟩⟩,⟨rfl,rfl,rfl,rfl,rfl⟩,⟨rfl,rfl,rfl,rfl,rfl⟩,⟨rfl,rfl,rfl,rfl,rfl⟩,⟨rfl,rfl,rfl⟩,⟨rfl,rfl,rfl⟩,rfl,rfl⟩
  EY:=⟨rfl,rfl,rfl,rfl,rfl⟩
  At:=PT rfl rfl
  Qc:=⟨rfl,rfl,rfl,rfl,rfl⟩
  J0:=⟨rfl,rfl,rfl,rfl,rfl⟩
  DE:=⟨rfl,rfl,rfl,rfl,rfl⟩
  K0:=⟨rfl,rfl,rfl,rfl,rfl⟩
  Qd:=⟨rfl,rfl,rfl,rfl,rfl⟩
  Lo:=⟨rfl,rfl,rfl,rfl,rfl⟩
  Qe:=⟨rfl,rfl,rfl,rfl,rfl⟩
  Ow:=⟨rfl,rfl,rfl,rfl,rfl⟩
  Ox:=⟨rfl,rfl,rfl,rfl,rfl⟩
  Oy:=⟨rfl,rfl,rfl,rfl,rfl⟩
  Oz:=⟨rfl,rfl,rfl,rfl,rfl⟩
  OA:=⟨rfl,rfl,rfl,rfl,rfl⟩
  OB:=⟨rfl,rfl,rfl,rfl,rfl⟩
  OC:=⟨rfl,rfl,rfl,rfl,rfl⟩}
 m:=⟨⟨⟨rfl,rfl,rfl,rfl,rfl⟩,rfl,⟨rfl,rfl,rfl,rfl,rfl⟩,⟨rfl,rfl,rfl,rfl,rfl⟩⟩,⟨rfl,rfl,rfl,rfl,rfl⟩,⟨rfl,rfl,rfl,rfl,rfl⟩,⟨rfl,rfl,rfl,rfl,rfl⟩,⟨rfl,rfl,rfl,rfl⟩,⟨rfl,rfl,rfl,rfl,rfl⟩,⟨rfl,rfl,rfl⟩⟩
 Ou:=⟨rfl,rfl,rfl,rfl,rfl⟩
 Ov:=⟨rfl,rfl,rfl,rfl,rfl⟩
 w8:=⟨rfl,rfl,rfl,rfl,rfl⟩
 OD:=⟨rfl,rfl,rfl,rfl,rfl⟩
 OE:=⟨rfl,rfl,rfl,rfl,rfl⟩
theorem QF:D3 T19b:=⟨⟨⟨rfl,rfl,rfl,rfl⟩,⟨rfl,rfl,rfl,rfl,rfl⟩,PT rfl rfl,⟨rfl,rfl,rfl,rfl⟩,⟨rfl,rfl,rfl,rfl⟩,⟨rfl,rfl,rfl,rfl⟩,⟨rfl,rfl,rfl,rfl,rfl⟩,⟨rfl,rfl,rfl,rfl,rfl⟩,⟨rfl,rfl,rfl,rfl,rfl⟩,⟨rfl,rfl,rfl,rfl,rfl⟩,⟨rfl,rfl,rfl,rfl,rfl⟩,⟨rfl,rfl,rfl,rfl,rfl⟩,⟨⟨rfl,rfl,rfl,rfl,rfl⟩,⟨rfl,rfl,rfl,rfl,rfl⟩,⟨rfl,rfl,rfl,rfl,rfl⟩,⟨rfl,rfl,rfl,rfl,rfl⟩⟩,⟨rfl,rfl,rfl,rfl,rfl⟩⟩,⟨rfl,rfl,rfl,rfl,rfl⟩,⟨rfl,rfl,rfl,rfl,rfl⟩,⟨⟨rfl,rfl,rfl,rfl,rfl⟩,rfl,⟨rfl,rfl,rfl,rfl,rfl⟩,⟨rfl,rfl,rfl,rfl,rfl⟩⟩⟩
theorem QG:xD T19b where
 k:={
  s:={
   s:=QJ
   He:=⟨rfl,rfl,rfl,rfl⟩
   Ml:=⟨rfl,rfl,rfl,rfl⟩
   Hf:=⟨rfl,rfl,rfl,rfl⟩
   Fs:=rfl
   FE:=rfl
   Fq:=rfl
   FD:=rfl
   Ot:=⟨rfl,rfl,rfl,rfl,rfl⟩
   Oo:=⟨rfl,rfl,rfl,rfl,rfl⟩
   Oq:=⟨rfl,rfl,rfl,rfl,rfl⟩}
  f:=⟨⟨⟨rfl,rfl,rfl,rfl,rfl⟩,rfl,⟨rfl,rfl,rfl,rfl,rfl⟩,⟨rfl,rfl,rfl,rfl,rfl⟩⟩,⟨rfl,rfl,rfl,rfl,rfl⟩,⟨rfl,rfl,rfl,rfl,rfl⟩,⟨rfl,rfl,rfl,rfl,rfl⟩,rfl⟩
  JY:=⟨rfl,rfl,rfl,rfl,rfl⟩
  F0:=⟨rfl,rfl,rfl,rfl,rfl⟩
  Ln:=rfl
  RA:=⟨rfl,rfl,rfl,rfl⟩
  RB:=⟨rfl,rfl,rfl,rfl⟩}
 f:=QF
 K2:=⟨rfl,rfl,rfl,rfl,rfl⟩
 O2:=⟨rfl,rfl,rfl⟩
 JZ:=⟨rfl,rfl,rfl,rfl,rfl⟩
 Mq:=⟨rfl,rfl,rfl⟩
 Hg:=⟨rfl,rfl,rfl,rfl,rfl⟩
theorem NO:Lb T19b where
 w:={
  r:=⟨⟨rfl,rfl,rfl,rfl,rfl⟩,⟨rfl,rfl,rfl,rfl,rfl⟩,⟨rfl,rfl,rfl,rfl,rfl⟩,⟨rfl,rfl,rfl,rfl,rfl⟩⟩
  s6:=⟨⟨rfl,rfl,rfl,rfl,rfl⟩,⟨rfl,rfl,rfl,rfl,rfl⟩,⟨rfl,rfl,rfl,rfl,rfl⟩,⟨rfl,rfl,rfl,rfl,rfl⟩,⟨rfl,rfl,rfl,rfl,rfl⟩,⟨rfl,rfl,rfl,rfl,rfl⟩,⟨rfl,rfl,rfl,rfl,rfl⟩,⟨rfl,rfl,rfl,rfl,rfl⟩,⟨rfl,rfl,rfl,rfl,rfl⟩,rfl⟩
  JQ:=⟨rfl,rfl,rfl,rfl,rfl⟩
  JR:=⟨rfl,rfl,rfl,rfl,rfl⟩
  JS:=⟨rfl,rfl,rfl,rfl,rfl⟩
  Ap:=⟨rfl,rfl,rfl,rfl,rfl⟩
  JV:=⟨rfl,rfl,rfl,rfl,rfl⟩
  JW:=⟨rfl,rfl,rfl,rfl,rfl⟩
  w7:=⟨rfl,rfl,rfl,rfl,rfl⟩
  qT:=⟨rfl,rfl,rfl,rfl,rfl⟩
  Ol:=⟨rfl,rfl,rfl,rfl,rfl⟩}
 JU:=⟨rfl,rfl,rfl,rfl,rfl⟩
 nT:=⟨rfl,rfl,rfl,rfl,rfl⟩
 Ok:=⟨rfl,rfl,rfl,rfl,rfl⟩
theorem I2(s:bc)(x:Spec)(D:Nat)(hD:D<=40)(hs:s.wf)(hx:x.wf)(l1:s.nodes.length<=40)(l2:s.aT.length<=40)(l3:s.pods.length<=40)(l4:x.b9.length<=40):ba T19b 187 [aF s,bg x,.int .i64 (D:Nat),.int .i64 200] (.tuple [.bool (gH s x D 200).1,.bool (gH s x D 200).2]):=by
 have kd:∀t,Rs s t->∀m:Move,m.wf->ba T19b 181 [aF s,bg x,aw t,dG m] (de (oq s x t m)):=fun t R m hm=>M9 NO s x t m (HN ⟨⟨rfl,rfl,rfl,rfl,rfl⟩,⟨rfl,rfl,rfl,rfl,rfl⟩,⟨rfl,rfl,rfl,rfl,rfl⟩,⟨rfl,rfl,rfl,rfl,rfl⟩⟩ s x t m (by omega) (by omega) (by rw[R.2];omega)) (by omega) (by omega) (by rw[R.2];omega) hx.1 R.1.1 hm;exact CF (most:=200) ⟨rfl,rfl,rfl,rfl,rfl⟩ hs hx.1 (by omega) (C3 ⟨rfl,rfl,rfl,rfl,rfl⟩ s (by omega)) (E6 NO.w s x (cv s) (by omega) (by omega) (by simp only[cv];omega) hs.2.2) (fun t R=>Jo ⟨rfl,rfl,rfl,rfl,rfl⟩ ⟨rfl,rfl,rfl,rfl,rfl⟩ (kd t R) hs R.1.1 (by omega) (by rw[R.2];omega)) (fun t R=>Kn ⟨rfl,rfl,rfl,rfl,rfl⟩ ⟨rfl,rfl,rfl,rfl,rfl⟩ ⟨rfl,rfl,rfl,rfl,rfl⟩ rfl t (by rw[R.2];omega) R.1.1) (fun t R=>EU ⟨rfl,rfl,rfl,rfl,rfl⟩ ⟨rfl,rfl,rfl,rfl,rfl⟩ x t (by omega) (by rw[R.2];omega)) (fun t R=>Jn (by omega) (by rw[R.2];omega)) (by decide) (by decide)
theorem KX{T:cK}(Rm:Std T 188 f188)(p n most:Nat)(hp:p<=5)(hn:n<=4)(hm:most<=1000):ba T 188 [.int .i64 (p:Nat),.int .i64 (n:Nat),.int .i64 (most:Nat)] (.int .i64 ((oS (branch p n) (most+1) 0 1:Nat):Int)):=by
 refine gives Rm rfl ?_;have b1:p*n<=5*4:=jM hp hn;have b2:p*p<=5*5:=jM hp hp;have b3:p*p*n<=5*5*4:=jM b2 hn;have b4:2*p*n=2*(p*n):=Nat.mul_assoc ..
 have w1:IntKind.i64.wrap (2*(p:Int))=((2*p:Nat):Int):=by rw[dS] <;>omega
 have e2:((2*p:Nat):Int)*(n:Int)=((2*p*n:Nat):Int):=by simp
 have w2:IntKind.i64.wrap (((2*p:Nat):Int)*(n:Int))=((2*p*n:Nat):Int):=by rw[e2,dS] <;>omega
 have w3:IntKind.i64.wrap (((2*p*n:Nat):Int)+(p:Int))=((2*p*n+p:Nat):Int):=by rw[dS] <;>omega
 have e4:(p:Int)*(p:Int)=((p*p:Nat):Int):=by simp
 have w4:IntKind.i64.wrap ((p:Int)*(p:Int))=((p*p:Nat):Int):=by rw[e4,dS] <;>omega
 have e5:((p*p:Nat):Int)*(n:Int)=((p*p*n:Nat):Int):=by simp
 have w5:IntKind.i64.wrap (((p*p:Nat):Int)*(n:Int))=((p*p*n:Nat):Int):=by rw[e5,dS] <;>omega
 have w6:IntKind.i64.wrap (((2*p*n+p:Nat):Int)+((p*p*n:Nat):Int))=((branch p n:Nat):Int):=by unfold branch;rw[dS] <;>omega
 simp only[f188,rL',aa,simprocAttr,w1,w2,w3,w4,w5,w6];refine FJ (b:=branch p n) (most:=most) (by unfold branch;omega) hm _ (oS (branch p n) (most+1) 0 1) (fun fr h8=>?_) (fun fr h6=>?_) (most+1) 0 0 1 (by omega) rfl (by decide) (by decide) _ ?_ ?_ ?_ ?_ ?_
 ·simp only[rL',aa,simprocAttr,h8]
 ·simp only[rL',aa,simprocAttr,h6]
 ·all_goals try simp only[aj,Nat.reduceEqDiff,]
 ·all_goals try simp only[aj,Nat.reduceEqDiff,]
 ·all_goals try simp only[aj,Nat.reduceEqDiff,]
  rfl
 ·all_goals try simp only[aj,Nat.reduceEqDiff,]
  rfl
 ·all_goals try simp only[aj,Nat.reduceEqDiff,]
  rfl
theorem C0{T:cK}(Rh:Std T 182 f182){s:bc}{x:Spec}(k:ba T 152 [aF s,bg x] (.tuple [.int .i64 (GB (gN s x)),.int .i64 (O1 (gN s x))])):ba T 182 [aF s,bg x] (.bool (decide (GB (gN s x)=0))):=by
 refine gives Rh rfl ?_;simp only[aF,bg]at k⊢;simp only[f182,rL',aa,simprocAttr,k.call]
theorem Mc{s:bc}{x:Spec}{D R:Nat}(hs:s.wf)(hx:x.wf)(hq:gN s x=none)(hD:D<=5)(hR:R<=200000)(hg:Bo (branch s.pods.length s.nodes.length) D<=R){p:PV}(hp:tK s x (D:Nat) (R:Nat) p) :
    ∃(k:Bool) (l:List Move) (n:Nat),p=.tuple [jc (if k=true then 1 else 2) l n,.dI]/\((gH s x D 200).2=true->(gH s x D 200).1=k):=by
 cases hp with
 |fair h=>rw[hq]at h;simp at h
 |DN _ h=>omega
 |T3 _ _ _ h _ _ =>
  have Sf:¬(oW s x (cv s)).1=0:=by
   rcases oX s x (cv s)with⟨w1,w2⟩|⟨w1,w2,w3⟩
   ·rw[h]at w1;simp at w1
   ·exact w3
  exact⟨false,[],0,rfl,fun _=>by unfold gH;rw[ar Sf]⟩
 | @some N kind v n _ h1 h2 hN Vu Nz hv =>
  obtain rfl:R=N:=by omega
  have Sf:(oW s x (cv s)).1=0:=by
   rcases oX s x (cv s)with⟨w1,w2⟩|⟨w1,w2,w3⟩
   ·exact w2
   ·rw[Nz]at w1;simp at w1
  have ho:=Fx (depth:=D) (most:=200) hs hx.1 Sf;rcases hv.kind with rfl|rfl|rfl
  ·refine⟨true,v,n,rfl,fun he=>?_⟩;obtain⟨t,hw,hg,hle,VG⟩:=C4 (s:=s) (x:=x) (steps:=R) h1 hv;cases hb:(gH s x D 200).1 with
   |true=>rfl
   |false=>exact absurd hg (ho.2 (Prod.ext hb he) v t (by omega) hw)
  ·refine⟨false,v,n,rfl,fun _=>?_⟩;cases hb:(gH s x D 200).1 with
   |false=>rfl
   |true =>
    obtain⟨_,ms,t,b,c,d⟩:=ho.1 hb;have:=Fo hs hx.1 (EK hq) h1 hv ms (by omega) (by rw[c]);rw[c]at this;exact absurd d this
  ·exact absurd hv (Fp hs hx.1 hg)
set_option maxRecDepth 100000 in
set_option maxHeartbeats 16000000 in
theorem law19b(s:bc)(x:Spec)(depth more:Int)(hs:s.wf)(hx:x.wf)(_:mq depth)(_:mq more):ba T19b 118 [aF s,bg x,.int .i64 depth,.int .i64 more] (.bool true):=by
 refine gives (f:=f118) ⟨rfl,rfl,rfl,rfl,rfl⟩ rfl ?_;have kf:=CO (T:=T19b) ⟨rfl,rfl,rfl,rfl,rfl⟩ ⟨rfl,rfl,rfl,rfl,rfl⟩ s x depth 0;have TF:=EI (T:=T19b) ⟨⟨rfl,rfl,rfl,rfl,rfl⟩,⟨rfl,rfl,rfl,rfl,rfl⟩,⟨rfl,rfl,rfl,rfl,rfl⟩,⟨rfl,rfl,rfl,rfl,rfl⟩,⟨rfl,rfl,rfl,rfl,rfl⟩,⟨rfl,rfl,rfl,rfl,rfl⟩⟩ ⟨rfl,rfl,rfl,rfl,rfl⟩ ⟨rfl,rfl,rfl,rfl,rfl⟩ s x;rw[show jO (gN s x)=.tuple [.int .i64 (GB (gN s x)),.int .i64 (O1 (gN s x))] by cases gN s x <;>rfl]at TF;have Sp:=C0 (T:=T19b) ⟨rfl,rfl,rfl,rfl,rfl⟩ TF;have z0:((0:Nat):Int)=0:=rfl;simp only[aF,bg]at kf Sp;cases hf:zq s x depth 0
 ·rw[hf]at kf;simp only[f118,rL',aa,simprocAttr,LY.call,aF,bg,kf.call,Sp.call]
 ·rw[hf]at kf;unfold zq at hf;simp only[H3,bj,bI]at hf;obtain⟨⟨l1,l2,l3⟩,Vx,Vy,Vz,VB,VC⟩:=hf;simp only[f118,rL',aa,simprocAttr,LY.call,aF,bg,kf.call,Sp.call];by_cases hb:GB (gN s x)=0
  ·have hq:gN s x=none:=by
    cases hq:gN s x with
    |none=>rfl
    |some q =>
     obtain⟨c,a⟩:=q;have hc:=GZ s x c a hq;rw[hq]at hb;simp only[GB]at hb;omega
   by_cases c1:depth<0
   ·simp only[rL',aa,simprocAttr,hb,c1]
   ·by_cases c2:5<depth
    ·simp only[rL',aa,simprocAttr,hb,c1,c2]
    ·by_cases c3:more<0
     ·simp only[rL',aa,simprocAttr,hb,c1,c2,c3]
     ·by_cases c4:100<more
      ·simp only[rL',aa,simprocAttr,hb,c1,c2,c3,c4]
      ·obtain⟨D,rfl⟩:∃D:Nat,depth=(D:Int):=⟨depth.toNat,by omega⟩;obtain⟨M,rfl⟩:∃M:Nat,more=(M:Int):=⟨more.toNat,by omega⟩;have kq:=I2 s x D (by omega) hs hx (by omega) (by omega) (by omega) (by omega);simp only[aF,bg]at kq;have key:∀R:Nat,R<=5000->Bo (branch s.pods.length s.nodes.length) D<=R->IntKind.i64.wrap ((R:Int)+(M:Int))=((R+M:Nat):Int)/\∃(k:Bool) (l:List Move) (n:Nat),ba T19b 233 [aF s,bg x,.int .i64 (D:Nat),.int .i64 ((R+M:Nat):Int)] (.tuple [jc (if k=true then 1 else 2) l n,.dI])/\((gH s x D 200).2=true->(gH s x D 200).1=k):=by
        intro R h1 h2;refine⟨by rw[dS] <;>omega,?_⟩;obtain⟨p,hp,kp⟩:=KG QG s x (D:Nat) ((R+M:Nat):Int) hs hx.1 (by omega) (by omega) (by omega) (by omega);obtain⟨k,l,n,e1,e2⟩:=Mc hs hx hq (by omega) (by omega) (by omega) hp;subst e1;exact⟨k,l,n,kp,e2⟩
       by_cases c5:(0:Int)<(D:Int)
       ·have w1:IntKind.i64.wrap ((D:Int)-1)=((D-1:Nat):Int):=by rw[dS] <;>omega
        have kr:=KX (T:=T19b) ⟨rfl,rfl,rfl,rfl,rfl⟩ s.pods.length s.nodes.length (D-1) (by omega) (by omega) (by omega);rw[show D-1+1=D by omega]at kr;generalize hR:oS (branch s.pods.length s.nodes.length) D 0 1=R at kr;by_cases c6:(5000:Int)<(R:Int)
        ·simp only[rL',aa,simprocAttr,hb,c1,c2,c3,c4,c5,w1,kr.call,c6]
        ·have Up:=xk (branch s.pods.length s.nodes.length) D 0 1 (by rw[hR];omega);obtain⟨w2,k,l,n,kp,e⟩:=key R (by omega) (by omega);simp only[aF,bg,jc]at kp;simp only[rL',aa,simprocAttr,hb,c1,c2,c3,c4,c5,w1,kr.call,c6,w2];cases h2:(gH s x D 200).2 with
         |false =>
          rw[h2]at kq;cases k with
          |true=>simp only[bz]at kp;simp only[rL',aa,simprocAttr,kp.call,kq.call]
          |false=>simp only[aJ,bA]at kp;simp only[rL',aa,simprocAttr,kp.call,kq.call]
         |true =>
          rw[h2,e h2]at kq;cases k with
          |true=>simp only[bz]at kp;simp only[rL',aa,simprocAttr,kp.call,kq.call]
          |false=>simp only[aJ,bA]at kp;simp only[rL',aa,simprocAttr,kp.call,kq.call]
       ·obtain rfl:D=0:=by omega
        obtain⟨w2,k,l,n,kp,e⟩:=key 0 (by omega) (by simp[Bo]);simp only[aF,bg,jc]at kp;simp only[z0]at w2 c1 c2 c5 kp kq;simp only[rL',aa,simprocAttr,hb,z0,c1,c2,c3,c4,c5,w2];cases h2:(gH s x 0 200).2 with
        |false =>
         rw[h2]at kq;cases k with
         |true=>simp only[bz]at kp;simp only[rL',aa,simprocAttr,kp.call,kq.call]
         |false=>simp only[aJ,bA]at kp;simp only[rL',aa,simprocAttr,kp.call,kq.call]
        |true =>
         rw[h2,e h2]at kq;cases k with
         |true=>simp only[bz]at kp;simp only[rL',aa,simprocAttr,kp.call,kq.call]
         |false=>simp only[aJ,bA]at kp;simp only[rL',aa,simprocAttr,kp.call,kq.call]
  ·simp only[rL',aa,simprocAttr,hb]
end Go.Proofs.YtkjehofblipcaaaGreatDoor.Ab
