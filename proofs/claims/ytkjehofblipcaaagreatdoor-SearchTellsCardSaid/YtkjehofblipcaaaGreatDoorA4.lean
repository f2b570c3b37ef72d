/- The layer, part 4: Co19, Sp19i, Sp19j, Sp3r, Sp3s, Sp3t, Sp3z, Sp3y, Sp13, Sp13b, Sp13c, Sp13d, Sp13e, Sp13f, Sp19k, Sp19l, Sp13g, Sp19m, Sp13m, Sp13n, Sp13o, Sp13s, Sp19n. -/
import Derived.Test.YtkjehofblipcaaaGreatDoorA3
set_option linter.unusedVariables false
set_option linter.unusedSimpArgs false
namespace Go.Proofs.YtkjehofblipcaaaGreatDoor.Ab
open Go
def f120:bg:=⟨198,[.t 8],
(.seq (.ops [
df 4 0 [],
df 5 1 [],
fR 8 false []])
(.seq (.ops [
aP 20 (.call 122 []) [],
aq 9 20 [0,0,0]])
(.seq (.ops [
bZ 21 3 4 [],
bZ 22 3 5 [],
aq 23 2 [],
aq 24 3 [],
aP 25 (.call 121 [.t 21,.t 22,.t 23,.t 24]) [0,1,2,3],
aq 10 25 [4,4,0,1,2,3,4]])
(.seq (.seq (.ops [
aq 26 10 [],
aP 27 (.not (.t 26)) [0]])
(.cond (.t 27)
(.seq (.ops [
aq 28 9 [],
aq 8 28 [0,0]])
.ret)
.skip))
(.seq (.ops [
bZ 30 3 4 [],
bZ 31 3 5 [],
aq 32 2 [],
aq 33 3 [],
aP 34 (.call 233 [.t 30,.t 31,.t 32,.t 33]) [0,1,2,3],
aq 29 34 [4],
fc 35 29 0 [5],
fc 36 29 1 [5],
aP 11 (.alloc [.pv (.int .i64 0),.bu,.pv (.int .i64 0)]) [],
dg 3 11 35 [8,6,4,0,1,2,3,4,5,6,8],
aq 12 36 [7,9,0,1,2,3,4,5,6,7,8,9]])
(.seq (.ops [
bZ 38 3 4 [],
bZ 39 3 5 [],
aP 40 (.call 152 [.t 38,.t 39]) [0,1],
aq 37 40 [2],
fc 41 37 0 [3],
fc 42 37 1 [3],
aq 13 41 [4,2,0,1,2,3,4],
aq 14 42 [5,6,0,1,2,3,4,5,6]])
(.seq (.seq (.ops [
aq 43 13 [],
cM 44 .neq 43 0 [0]])
(.cond (.t 44)
(.seq (.ops [
aq 45 9 [],
aq 46 45 [0],
eP 47 46 true 12 [1],
eP 48 46 true 13 [1],
eP 49 46 true 14 [1],
dU 50 46 true (.call 105 [.t 47,.t 48,.t 49]) [2,3,4,1,1],
ib 51 46 50 [1,5],
aq 52 51 [6,5],
dX 53 52 true 0 11 [7],
dP 54 52 true 1 53 [8,7],
fV 55 52 true .eql 54 0 [9,7],
ib 56 52 55 [7,10],
aq 57 56 [11,7],
dX 58 57 true 2 11 [12],
dP 59 57 true 1 58 [13,12],
fV 60 57 true .eql 59 0 [14,12],
ib 61 57 60 [12,15],
aq 62 61 [16,12],
dX 63 62 true 1 11 [17],
dP 64 62 true 1 63 [18,17],
dU 65 62 true (.len (.t 64)) [19,17],
fV 66 62 true .eql 65 0 [20,17],
ib 67 62 66 [17,21],
aq 8 67 [22,17,0,1,2,3,4,5,6,7,8,9,10,11,12,13,14,15,16,17,18,19,20,21,22]])
.ret)
.skip))
(.seq (.seq (.ops [
aq 68 2 [],
cM 69 .lss 68 0 [0],
aq 70 69 [1],
eP 71 70 false 2 [2],
fV 72 70 false .gtr 71 40 [3,2],
jJ 73 70 72 [2,4],
aq 74 73 [5,2],
eP 75 74 false 3 [6],
fV 76 74 false .lss 75 0 [7,6],
jJ 77 74 76 [6,8],
aq 78 77 [9,6],
eP 79 78 false 3 [10],
fV 80 78 false .gtr 79 200000 [11,10],
jJ 81 78 80 [10,12]])
(.cond (.t 81)
(.seq (.ops [
aq 82 9 [],
aq 83 82 [0],
eP 84 83 true 12 [1],
dU 85 83 true (.kO 0 (.c (.pv (.int .i64 3)))) [1],
dU 86 83 true (.bin .eql (some (.iface true)) (.t 84) (.t 85)) [2,3,1],
ib 87 83 86 [1,4],
aq 88 87 [5,1],
dX 89 88 true 0 11 [6],
dP 90 88 true 1 89 [7,6],
fV 91 88 true .eql 90 0 [8,6],
ib 92 88 91 [6,9],
aq 93 92 [10,6],
dX 94 93 true 2 11 [11],
dP 95 93 true 1 94 [12,11],
fV 96 93 true .eql 95 0 [13,11],
ib 97 93 96 [11,14],
aq 98 97 [15,11],
dX 99 98 true 1 11 [16],
dP 100 98 true 1 99 [17,16],
dU 101 98 true (.len (.t 100)) [18,16],
fV 102 98 true .eql 101 0 [19,16],
ib 103 98 102 [16,20],
aq 8 103 [21,16,0,1,2,3,4,5,6,7,8,9,10,11,12,13,14,15,16,17,18,19,20,21]])
.ret)
.skip))
(.seq (.seq (.ops [
aq 104 12 [],
aP 105 (.bin .neq (some (.iface true)) (.t 104) (.c (.pv .dJ))) [0],
aq 106 105 [1],
dX 107 106 false 2 11 [2],
dP 108 106 false 1 107 [3,2],
fV 109 106 false .lss 108 0 [4,2],
jJ 110 106 109 [2,5],
aq 111 110 [6,2],
dX 112 111 false 2 11 [7],
dP 113 111 false 1 112 [8,7],
eP 114 111 false 3 [7],
dU 115 111 false (.bin .gtr none (.t 113) (.t 114)) [9,10,7],
jJ 116 111 115 [7,11],
aq 117 116 [12,7],
dX 118 117 false 0 11 [13],
dP 119 117 false 1 118 [14,13],
fV 120 117 false .lss 119 1 [15,13],
jJ 121 117 120 [13,16],
aq 122 121 [17,13],
dX 123 122 false 0 11 [18],
dP 124 122 false 1 123 [19,18],
fV 125 122 false .gtr 124 3 [20,18],
jJ 126 122 125 [18,21],
aq 127 126 [22,18],
dX 128 127 false 0 11 [23],
dP 129 127 false 1 128 [24,23],
fV 130 127 false .neq 129 1 [25,23],
eP 131 127 false 130 [26,23,23],
dX 132 131 true 1 11 [27],
dP 133 131 true 1 132 [28,27],
dU 134 131 true (.len (.t 133)) [29,27],
fV 135 131 true .neq 134 0 [30,27],
Hb 136 127 false 131 135 [27,31,23],
jJ 137 127 136 [23,32]])
(.cond (.t 137)
(.seq (.ops [
fR 8 false []])
.ret)
.skip))
(.seq (.seq (.ops [
bP 138 0 11 [],
bQ 139 1 138 [0],
cM 140 .eql 139 1 [1]])
(.cond (.t 140)
(.seq (.ops [
bZ 142 3 4 [],
bZ 143 3 5 [],
bP 144 1 11 [],
bQ 145 1 144 [2],
aP 146 (.call 183 [.t 142,.t 143,.t 145]) [0,1,3],
aq 141 146 [4],
fc 147 141 0 [5],
fc 148 141 1 [5],
fc 149 141 2 [5],
aP 15 (.alloc [.bu,.pv (.int .i64 0),.pv (.int .i64 0)]) [],
dg 3 15 147 [9,6,4,0,1,2,3,4,5,6,9],
aq 16 148 [7,10,0,1,2,3,4,5,6,7,9,10],
aq 17 149 [8,11,0,1,2,3,4,5,6,7,8,9,10,11]])
(.seq (.ops [
aq 150 9 [],
aq 151 150 [0],
eP 152 151 true 17 [1],
fV 153 151 true .eql 152 0 [2,1],
ib 154 151 153 [1,3],
aq 155 154 [4,1],
eP 156 155 true 16 [5],
dX 157 155 true 1 11 [5],
dP 158 155 true 1 157 [7,5],
dU 159 155 true (.len (.t 158)) [8,5],
dU 160 155 true (.bin .eql none (.t 156) (.t 159)) [6,9,5],
ib 161 155 160 [5,10],
aq 162 161 [11,5],
eP 163 162 true 16 [12],
eP 164 162 true 2 [12],
dU 165 162 true (.bin .leq none (.t 163) (.t 164)) [13,14,12],
ib 166 162 165 [12,15],
aq 167 166 [16,12],
dU 168 167 true (.load true 3 (.t 5)) [17],
dU 169 167 true (.load true 3 (.t 15)) [17],
dU 170 167 true (.call 165 [.t 168,.t 169]) [18,19,17,17],
ib 171 167 170 [17,20],
aq 8 171 [21,20,0,1,2,3,4,5,6,7,8,9,10,11,12,13,14,15,16,17,18,19,20,21]])
.ret))
.skip))
(.seq (.seq (.ops [
bP 172 0 11 [],
bQ 173 1 172 [0],
cM 174 .eql 173 3 [1]])
(.cond (.t 174)
(.seq (.ops [
aq 175 9 [],
aq 176 175 [0],
dX 177 176 true 2 11 [1],
dP 178 176 true 1 177 [2,1],
eP 179 176 true 3 [1],
dU 180 176 true (.bin .eql none (.t 178) (.t 179)) [3,4,1],
ib 181 176 180 [1,5],
aq 8 181 [6,1,0,1,2,3,4,5,6]])
.ret)
.skip))
(.seq (.ops [
bZ 183 3 4 [],
bZ 184 3 5 [],
aq 185 2 [],
aP 186 (.call 187 [.t 183,.t 184,.t 185,.c (.pv (.int .i64 200))]) [0,1,2],
aq 182 186 [3],
fc 187 182 0 [4],
fc 188 182 1 [4],
aq 18 187 [5,3,0,1,2,3,4,5],
aq 19 188 [6,7,0,1,2,3,4,5,6,7]])
(.seq (.ops [
aq 189 9 [],
aq 190 189 [0],
eP 191 190 true 19 [1],
dU 192 190 true (.not (.t 191)) [2,1],
eP 193 190 true 192 [3,1,1],
eP 194 193 false 18 [4],
dU 195 193 false (.not (.t 194)) [5,4],
dU 196 190 true (.pick (.t 193) (.c (.pv (.bool true))) (.t 195)) [4,6,1],
ib 197 190 196 [1,7],
aq 8 197 [8,4,0,1,2,3,4,5,6,7,8]])
.ret)))))))))))))⟩
def f121:bg:=⟨47,[.t 8],
(.seq (.ops [
df 4 0 [],
df 5 1 [],
fR 8 false []])
(.seq (.ops [
bZ 10 3 4 [],
aP 11 (.call 153 [.t 10]) [0],
aq 9 11 [1,1,0,1]])
(.seq (.ops [
aq 12 9 [],
aq 13 12 [0],
dX 14 13 true 0 5 [1],
dP 15 13 true 1 14 [2,1],
dU 16 13 true (.len (.t 15)) [3,1],
fV 17 13 true .leq 16 40 [4,1],
ib 18 13 17 [1,5],
aq 19 18 [6,1],
dX 20 19 true 0 4 [7],
dP 21 19 true 1 20 [8,7],
dU 22 19 true (.len (.t 21)) [9,7],
fV 23 19 true .leq 22 4 [10,7],
ib 24 19 23 [7,11],
aq 25 24 [12,7],
dX 26 25 true 2 4 [13],
dP 27 25 true 1 26 [14,13],
dU 28 25 true (.len (.t 27)) [15,13],
fV 29 25 true .leq 28 5 [16,13],
ib 30 25 29 [13,17],
aq 31 30 [18,13],
eP 32 31 true 2 [19],
fV 33 31 true .leq 32 5 [20,19],
eP 34 31 true 33 [21,19,19],
eP 35 34 false 2 [22],
fV 36 34 false .gtr 35 40 [23,22],
dU 37 31 true (.pick (.t 34) (.c (.pv (.bool true))) (.t 36)) [22,24,19],
ib 38 31 37 [19,25],
aq 39 38 [26,22],
eP 40 39 true 3 [27],
fV 41 39 true .leq 40 3000 [28,27],
eP 42 39 true 41 [29,27,27],
eP 43 42 false 3 [30],
fV 44 42 false .gtr 43 200000 [31,30],
dU 45 39 true (.pick (.t 42) (.c (.pv (.bool true))) (.t 44)) [30,32,27],
ib 46 39 45 [27,33],
aq 8 46 [34,30,0,1,2,3,4,5,6,7,8,9,10,11,12,13,14,15,16,17,18,19,20,21,22,23,24,25,26,27,28,29,30,31,32,33,34]])
.ret)))⟩
def f122:bg:=⟨65,[.t 0],
(.seq (.ops [
fR 0 false []])
(.seq (.ops [
aP 9 (.build [.pv (.int .i64 0),.pv (.int .i64 0),.pv (.int .u64 0),.pv (.int .u64 0),.pv (.int .u64 0),.pv (.int .u64 0),.pv (.int .u64 0),.pv (.int .u64 0),.pv (.int .u64 0),.pv (.int .u64 0)] [(0,1,(.c (.pv (.int .i64 3)))),(1,1,(.c (.pv (.int .i64 1))))]) [],
aP 10 (.cv 10 1 [.pv (.int .i64 0),.pv (.int .i64 0),.pv (.int .u64 0),.pv (.int .u64 0),.pv (.int .u64 0),.pv (.int .u64 0),.pv (.int .u64 0),.pv (.int .u64 0),.pv (.int .u64 0),.pv (.int .u64 0)] [(0,10,(.t 9))]) [0],
aP 11 (.build [.pv (.int .i64 0),.pv (.bool false),.pv (.int .i64 0),.pv (.int .i64 0),.pv (.int .i64 0)] [(0,1,(.c (.pv (.int .i64 1)))),(4,1,(.c (.pv (.int .i64 1))))]) [],
aP 12 (.cv 5 1 [.pv (.int .i64 0),.pv (.bool false),.pv (.int .i64 0),.pv (.int .i64 0),.pv (.int .i64 0)] [(0,5,(.t 11))]) [2],
aP 13 (.build [.pv (.int .i64 0),.pv (.int .i64 0),.pv (.int .i64 0),.pv (.int .u64 0),.pv (.int .u64 0),.pv (.int .u64 0),.pv (.int .u64 0),.pv (.int .i64 0)] [(0,1,(.c (.pv (.int .i64 1)))),(1,1,(.c (.pv (.int .i64 1))))]) [],
aP 14 (.cv 8 1 [.pv (.int .i64 0),.pv (.int .i64 0),.pv (.int .i64 0),.pv (.int .u64 0),.pv (.int .u64 0),.pv (.int .u64 0),.pv (.int .u64 0),.pv (.int .i64 0)] [(0,8,(.t 13))]) [4],
aP 15 (.build [.bu,.bu,.bu] [(0,1,(.t 10)),(1,1,(.t 12)),(2,1,(.t 14))]) [1,3,5],
aP 1 (.alloc [.bu,.bu,.bu]) [],
dg 3 1 15 [7,6,0,1,2,3,4,5,6,7]])
(.seq (.ops [
aP 16 (.build [.pv (.int .u64 0),.pv (.int .u64 0),.pv (.int .u64 0),.pv (.int .u64 0)] [(0,1,(.c (.pv (.int .u64 1))))]) [],
aP 17 (.build [.pv (.int .i64 0),.pv (.int .u64 0),.pv (.int .u64 0),.pv (.int .u64 0),.pv (.int .u64 0),.pv (.bool false)] [(0,1,(.c (.pv (.int .i64 1)))),(5,1,(.c (.pv (.bool true)))),(1,4,(.t 16))]) [0],
aP 18 (.cv 6 1 [.pv (.int .i64 0),.pv (.int .u64 0),.pv (.int .u64 0),.pv (.int .u64 0),.pv (.int .u64 0),.pv (.bool false)] [(0,6,(.t 17))]) [1],
aP 19 (.build [.bu,.pv (.int .i64 0),.pv (.int .i64 0)] [(0,1,(.t 18))]) [2],
aP 2 (.alloc [.bu,.pv (.int .i64 0),.pv (.int .i64 0)]) [],
dg 3 2 19 [4,3,0,1,2,3,4]])
(.seq (.ops [
bZ 21 3 1 [],
aP 22 (.build [.bu,.pv (.int .i64 0),.pv (.int .i64 0)] []) [],
aP 23 (.call 233 [.t 21,.t 22,.c (.pv (.int .i64 0)),.c (.pv (.int .i64 0))]) [0,1],
aq 20 23 [2],
fc 24 20 0 [3],
fc 25 20 1 [3],
aP 3 (.alloc [.pv (.int .i64 0),.bu,.pv (.int .i64 0)]) [],
dg 3 3 24 [6,4,2,0,1,2,3,4,6],
aq 4 25 [5,7,0,1,2,3,4,5,6,7]])
(.seq (.ops [
bZ 27 3 1 [],
bZ 28 3 2 [],
aP 29 (.call 233 [.t 27,.t 28,.c (.pv (.int .i64 2)),.c (.pv (.int .i64 100))]) [0,1],
aq 26 29 [2],
fc 30 26 0 [3],
fc 31 26 1 [3],
aP 5 (.alloc [.pv (.int .i64 0),.bu,.pv (.int .i64 0)]) [],
dg 3 5 30 [6,4,2,0,1,2,3,4,6],
aq 6 31 [5,7,0,1,2,3,4,5,6,7]])
(.seq (.ops [
bZ 33 3 1 [],
bZ 34 3 2 [],
aP 35 (.call 233 [.t 33,.t 34,.c (.pv (.int .i64 41)),.c (.pv (.int .i64 100))]) [0,1],
aq 32 35 [2],
fc 36 32 0 [3],
fc 37 32 1 [3],
aP 7 (.alloc [.pv (.int .i64 0),.bu,.pv (.int .i64 0)]) [],
dg 3 7 36 [6,4,2,0,1,2,3,4,6],
aq 8 37 [5,7,0,1,2,3,4,5,6,7]])
(.seq (.ops [
aq 38 4 [],
aP 39 (.bin .eql (some (.iface true)) (.t 38) (.c (.pv .dJ))) [0],
aq 40 39 [1],
dX 41 40 true 0 3 [2],
dP 42 40 true 1 41 [3,2],
fV 43 40 true .eql 42 1 [4,2],
ib 44 40 43 [2,5],
aq 45 44 [6,2],
dX 46 45 true 1 3 [7],
dP 47 45 true 1 46 [8,7],
dU 48 45 true (.len (.t 47)) [9,7],
fV 49 45 true .eql 48 0 [10,7],
ib 50 45 49 [7,11],
aq 51 50 [12,7],
eP 52 51 true 6 [13],
dU 53 51 true (.bin .eql (some (.iface true)) (.t 52) (.c (.pv .dJ))) [14,13],
ib 54 51 53 [13,15],
aq 55 54 [16,13],
dX 56 55 true 0 5 [17],
dP 57 55 true 1 56 [18,17],
fV 58 55 true .eql 57 2 [19,17],
ib 59 55 58 [17,20],
aq 60 59 [21,17],
eP 61 60 true 8 [22],
dU 62 60 true (.kO 0 (.c (.pv (.int .i64 3)))) [22],
dU 63 60 true (.bin .eql (some (.iface true)) (.t 61) (.t 62)) [23,24,22],
ib 64 60 63 [22,25],
aq 0 64 [26,22,0,1,2,3,4,5,6,7,8,9,10,11,12,13,14,15,16,17,18,19,20,21,22,23,24,25,26]])
.ret)))))))⟩
def yk:bz :=
(.seq (.seq (.ops [
aq 22 10 [],
bP 23 0 5 [],
bQ 24 1 23 [1],
fW 25 24 [2],
eu 26 .lss 22 25 [0,3]])
(.cond (.t 26)
.skip
(.exit 0)))
(.seq (.block 1
(.ops [
aq 29 8 [],
bP 30 0 5 [],
bQ 31 1 30 [1],
aq 32 10 [],
ft 33 8 31 32 [2,3],
bP 34 0 33 [4],
bQ 35 1 34 [5],
aP 36 (.call 189 [.t 29,.t 35]) [0,6],
aq 8 36 [7,7,0,1,2,3,4,5,6,7]]))
(.ops [
aq 27 10 [],
cM 28 .add 27 1 [0],
aq 10 28 [1,0,1]])))
def yl:bz :=
(.seq (.seq (.ops [
aq 37 11 [],
bP 38 0 3 [],
bQ 39 1 38 [1],
fW 40 39 [2],
eu 41 .lss 37 40 [0,3]])
(.cond (.t 41)
.skip
(.exit 2)))
(.seq (.block 3
(.ops [
aq 44 9 [],
bP 45 0 3 [],
bQ 46 1 45 [1],
aq 47 11 [],
ft 48 10 46 47 [2,3],
bP 49 0 48 [4],
bQ 50 1 49 [5],
aP 51 (.call 189 [.t 44,.t 50]) [0,6],
aq 9 51 [7,7,0,1,2,3,4,5,6,7]]))
(.ops [
aq 42 11 [],
cM 43 .add 42 1 [0],
aq 11 43 [1,0,1]])))
def ym:bz :=
(.seq (.seq (.ops [
aq 93 16 [],
aq 94 8 [],
fW 95 94 [1],
eu 96 .lss 93 95 [0,2]])
(.cond (.t 96)
.skip
(.exit 10)))
(.seq (.block 11
(.draw [
aq 99 12 [],
aq 100 8 [],
aq 101 14 [],
ft 102 1 100 101 [1,2],
bQ 103 1 102 [3],
aq 104 9 [],
aq 105 15 [],
ft 106 1 104 105 [5,6],
bQ 107 1 106 [7],
aq 108 8 [],
aq 109 16 [],
ft 110 1 108 109 [9,10],
bQ 111 1 110 [11],
aP 112 (.build [.pv (.int .i64 0),.pv (.int .i64 0),.pv (.int .i64 0),.pv (.int .i64 0)] [(0,1,(.c (.pv (.int .i64 4)))),(1,1,(.t 103)),(2,1,(.t 107)),(3,1,(.t 111))]) [4,8,12],
aP 113 (.cv 4 1 [.pv (.int .i64 0),.pv (.int .i64 0),.pv (.int .i64 0),.pv (.int .i64 0)] [(0,4,(.t 112))]) [13],
aP 114 (.append 4 32 (.t 99) (.t 113)) [0,14],
aq 12 114 [15,15,0,1,2,3,4,5,6,7,8,9,10,11,12,13,14,15]]))
(.ops [
aq 97 16 [],
cM 98 .add 97 1 [0],
aq 16 98 [1,0,1]])))
def uo:bz :=
(.seq (.seq (.ops [
aq 72 15 [],
aq 73 9 [],
fW 74 73 [1],
eu 75 .lss 72 74 [0,2]])
(.cond (.t 75)
.skip
(.exit 8)))
(.seq (.block 9
(.seq (.seq (.ops [
aq 78 13 [],
cM 79 .neq 78 4 [0]])
(.cond (.t 79)
(.seq (.draw [
aq 80 12 [],
aq 81 13 [],
aq 82 8 [],
aq 83 14 [],
ft 84 1 82 83 [2,3],
bQ 85 1 84 [4],
aq 86 9 [],
aq 87 15 [],
ft 88 1 86 87 [6,7],
bQ 89 1 88 [8],
aP 90 (.build [.pv (.int .i64 0),.pv (.int .i64 0),.pv (.int .i64 0),.pv (.int .i64 0)] [(0,1,(.t 81)),(1,1,(.t 85)),(2,1,(.t 89))]) [1,5,9],
aP 91 (.cv 4 1 [.pv (.int .i64 0),.pv (.int .i64 0),.pv (.int .i64 0),.pv (.int .i64 0)] [(0,4,(.t 90))]) [10],
aP 92 (.append 4 32 (.t 80) (.t 91)) [0,11],
aq 12 92 [12,12,0,1,2,3,4,5,6,7,8,9,10,11,12]])
(.exit 9))
.skip))
(.seq (.ops [
cT 16 0 []])
(.block 10
(.loop ym)))))
(.ops [
aq 76 15 [],
cM 77 .add 76 1 [0],
aq 15 77 [1,0,1]])))
def ur:bz :=
(.seq (.seq (.ops [
aq 56 14 [],
aq 57 8 [],
fW 58 57 [1],
eu 59 .lss 56 58 [0,2]])
(.cond (.t 59)
.skip
(.exit 6)))
(.seq (.block 7
(.seq (.seq (.ops [
aq 62 13 [],
cM 63 .eql 62 2 [0]])
(.cond (.t 63)
(.seq (.ops [
aq 64 12 [],
aq 65 8 [],
aq 66 14 [],
ft 67 1 65 66 [1,2],
bQ 68 1 67 [3],
aP 69 (.build [.pv (.int .i64 0),.pv (.int .i64 0),.pv (.int .i64 0),.pv (.int .i64 0)] [(0,1,(.c (.pv (.int .i64 2)))),(1,1,(.t 68))]) [4],
aP 70 (.cv 4 1 [.pv (.int .i64 0),.pv (.int .i64 0),.pv (.int .i64 0),.pv (.int .i64 0)] [(0,4,(.t 69))]) [5],
aP 71 (.append 4 32 (.t 64) (.t 70)) [0,6],
aq 12 71 [7,7,0,1,2,3,4,5,6,7]])
(.exit 7))
.skip))
(.seq (.ops [
cT 15 0 []])
(.block 8
(.loop uo)))))
(.ops [
aq 60 14 [],
cM 61 .add 60 1 [0],
aq 14 61 [1,0,1]])))
def yn:bz :=
(.seq (.seq (.ops [
aq 52 13 [],
cM 53 .leq 52 4 [0]])
(.cond (.t 53)
.skip
(.exit 4)))
(.seq (.block 5
(.seq (.ops [
cT 14 0 []])
(.block 6
(.loop ur))))
(.ops [
aq 54 13 [],
cM 55 .add 54 1 [0],
aq 13 55 [1,0,1]])))
def uu:bz :=
(.seq (.seq (.ops [
aq 115 19 [],
aq 116 12 [],
fW 117 116 [1],
eu 118 .lss 115 117 [0,2]])
(.cond (.t 118)
.skip
(.exit 12)))
(.seq (.block 13
(.seq (.draw [
bZ 122 3 3 [],
bZ 123 3 4 [],
bZ 124 3 5 [],
aq 125 12 [],
aq 126 19 [],
ft 127 4 125 126 [3,4],
bZ 128 4 127 [5],
aP 129 (.call 181 [.t 122,.t 123,.t 124,.t 128]) [0,1,2,6],
aq 121 129 [7],
fc 130 121 0 [8],
fc 131 121 1 [8],
aP 20 (.alloc [.bu,.pv (.int .i64 0),.pv (.int .i64 0)]) [],
dg 3 20 130 [11,9,7,0,1,2,3,4,5,6,7,8,9,11],
aq 21 131 [10,12,0,1,2,3,4,5,6,7,8,9,10,11,12]])
(.seq (.ops [
aq 132 21 [],
cM 133 .eql 132 0 [0]])
(.cond (.t 133)
(.seq (.ops [
aq 134 17 [],
aq 135 12 [],
aq 136 19 [],
ft 137 4 135 136 [1,2],
bZ 138 4 137 [3],
aP 139 (.cv 4 1 [.pv (.int .i64 0),.pv (.int .i64 0),.pv (.int .i64 0),.pv (.int .i64 0)] [(0,4,(.t 138))]) [4],
aP 140 (.append 4 32 (.t 134) (.t 139)) [0,5],
aq 17 140 [6,6,0,1,2,3,4,5,6]])
(.ops [
aq 141 18 [],
bZ 142 3 20 [],
aP 143 (.cv 3 1 [.bu,.pv (.int .i64 0),.pv (.int .i64 0)] [(0,3,(.t 142))]) [1],
aP 144 (.append 3 40 (.t 141) (.t 143)) [0,2],
aq 18 144 [3,3,0,1,2,3]]))
.skip))))
(.ops [
aq 119 19 [],
cM 120 .add 119 1 [0],
aq 19 120 [1,0,1]])))
def f185:bg:=⟨147,[.t 6,.t 7],
(.seq (.ops [
df 3 0 [],
df 4 1 [],
df 5 2 [],
aP 6 (.mv (.c .bu)) [],
aP 7 (.mv (.c .bu)) [3]])
(.seq (.ops [
aP 8 (.mv (.c .bu)) []])
(.seq (.ops [
aP 9 (.mv (.c .bu)) []])
(.seq (.seq (.ops [
cT 10 0 []])
(.block 0
(.loop yk)))
(.seq (.seq (.ops [
cT 11 0 []])
(.block 2
(.loop yl)))
(.seq (.ops [
aP 12 (.mv (.c .bu)) []])
(.seq (.seq (.ops [
cT 13 1 []])
(.block 4
(.loop yn)))
(.seq (.ops [
aP 17 (.mv (.c .bu)) []])
(.seq (.ops [
aP 18 (.mv (.c .bu)) []])
(.seq (.seq (.ops [
cT 19 0 []])
(.block 12
(.loop uu)))
(.seq (.ops [
aq 145 17 [],
aq 146 18 [],
aq 6 145 [0,0],
aq 7 146 [1,2,0,1,2]])
.ret)))))))))))⟩
def yo:bz :=
(.seq (.seq (.ops [
aq 11 4 [],
bP 12 0 1 [],
bQ 13 1 12 [1],
fW 14 13 [2],
eu 15 .lss 11 14 [0,3]])
(.cond (.t 15)
.skip
(.exit 0)))
(.seq (.block 1
(.seq (.ops [
bP 18 0 1 [],
bQ 19 1 18 [0],
aq 20 4 [],
ft 21 8 19 20 [1,2],
bZ 22 8 21 [3],
aP 5 (.alloc [.pv (.int .i64 0),.pv (.int .i64 0),.pv (.int .i64 0),.pv (.int .u64 0),.pv (.int .u64 0),.pv (.int .u64 0),.pv (.int .u64 0),.pv (.int .i64 0)]) [],
dg 8 5 22 [5,4,0,1,2,3,4,5]])
(.ops [
aq 23 3 [],
bP 24 0 5 [],
bQ 25 1 24 [1],
aP 26 (.conv .u64 (.t 25)) [2],
bP 27 1 5 [],
bQ 28 1 27 [4],
aP 29 (.conv .u64 (.t 28)) [5],
bP 30 2 5 [],
bQ 31 1 30 [7],
aP 32 (.conv .u64 (.t 31)) [8],
bP 33 3 5 [],
aP 34 (.dB 4 1 (.t 33) (.c (.pv (.int .i64 0)))) [10],
bQ 35 1 34 [11],
bP 36 3 5 [],
aP 37 (.dB 4 1 (.t 36) (.c (.pv (.int .i64 1)))) [13],
bQ 38 1 37 [14],
bP 39 3 5 [],
aP 40 (.dB 4 1 (.t 39) (.c (.pv (.int .i64 2)))) [16],
bQ 41 1 40 [17],
bP 42 3 5 [],
aP 43 (.dB 4 1 (.t 42) (.c (.pv (.int .i64 3)))) [19],
bQ 44 1 43 [20],
bP 45 7 5 [],
bQ 46 1 45 [22],
aP 47 (.conv .u64 (.t 46)) [23],
aP 48 (.cv 1 8 [.pv (.int .u64 0),.pv (.int .u64 0),.pv (.int .u64 0),.pv (.int .u64 0),.pv (.int .u64 0),.pv (.int .u64 0),.pv (.int .u64 0),.pv (.int .u64 0)] [(0,1,(.t 26)),(1,1,(.t 29)),(2,1,(.t 32)),(3,1,(.t 35)),(4,1,(.t 38)),(5,1,(.t 41)),(6,1,(.t 44)),(7,1,(.t 47))]) [3,6,9,12,15,18,21,24],
aP 49 (.append 1 8 (.t 23) (.t 48)) [0,25],
aq 3 49 [26,26,0,1,2,3,4,5,6,7,8,9,10,11,12,13,14,15,16,17,18,19,20,21,22,23,24,25,26]])))
(.ops [
aq 16 4 [],
cM 17 .add 16 1 [0],
aq 4 17 [1,0,1]])))
def f186:bg:=⟨62,[.t 2],
(.seq (.ops [
df 1 0 [],
aP 2 (.mv (.c (.pv (.str ⟨#[]⟩)))) []])
(.seq (.ops [
bP 6 0 1 [],
bQ 7 1 6 [0],
fW 8 7 [1],
aP 9 (.conv .u64 (.t 8)) [2],
aP 10 (.cv 1 1 [.pv (.int .u64 0)] [(0,1,(.t 9))]) [3],
aq 3 10 [4,0,1,2,3,4]])
(.seq (.seq (.ops [
cT 4 0 []])
(.block 0
(.loop yo)))
(.seq (.ops [
aq 50 3 [],
bP 51 1 1 [],
bQ 52 1 51 [1],
aP 53 (.conv .u64 (.t 52)) [2],
bP 54 2 1 [],
bQ 55 1 54 [4],
aP 56 (.conv .u64 (.t 55)) [5],
aP 57 (.cv 1 2 [.pv (.int .u64 0),.pv (.int .u64 0)] [(0,1,(.t 53)),(1,1,(.t 56))]) [3,6],
aP 58 (.append 1 8 (.t 50) (.t 57)) [0,7],
aq 3 58 [8,8,0,1,2,3,4,5,6,7,8]])
(.seq (.ops [
aq 59 3 [],
aP 60 (.call 148 [.t 59]) [0],
aP 61 (.G2 (.t 60)) [1],
aq 2 61 [2,1,0,1,2]])
.ret)))))⟩
def yp:bz :=
(.seq (.seq (.ops [
aq 44 16 [],
aq 45 13 [],
fW 46 45 [1],
eu 47 .lss 44 46 [0,2]])
(.cond (.t 47)
.skip
(.exit 2)))
(.seq (.block 3
(.seq (.draw [
bZ 50 3 5 [],
aq 51 13 [],
aq 52 16 [],
ft 53 3 51 52 [1,2],
bZ 54 3 53 [3],
aP 55 (.call 165 [.t 50,.t 54]) [0,4],
aq 17 55 [5,5,0,1,2,3,4,5]])
(.seq (.ops [
aq 56 17 []])
(.cond (.t 56)
(.seq (.ops [
fR 8 true [],
fR 9 true [0,0]])
.ret)
.skip))))
(.ops [
aq 48 16 [],
cM 49 .add 48 1 [0],
aq 16 49 [1,0,1]])))
def yq:bz :=
(.seq (.seq (.ops [
aq 87 25 [],
aq 88 14 [],
fW 89 88 [1],
eu 90 .lss 87 89 [0,2]])
(.cond (.t 90)
.skip
(.exit 8)))
(.seq (.block 9
(.ops [
aq 93 24 [],
aq 94 93 [0],
eP 95 94 true 14 [1],
eP 96 94 true 25 [1],
zD 97 94 true 1 95 96 [2,3,1],
dP 98 94 true 1 97 [4,1],
eP 99 94 true 23 [1],
dU 100 94 true (.bin .neq (some .str) (.t 98) (.t 99)) [5,6,1],
ib 101 94 100 [1,7],
aq 24 101 [8,1,0,1,2,3,4,5,6,7,8]]))
(.ops [
aq 91 25 [],
cM 92 .add 91 1 [0],
aq 25 92 [1,0,1]])))
def yr:bz :=
(.seq (.seq (.ops [
aq 76 22 [],
aq 77 21 [],
fW 78 77 [1],
eu 79 .lss 76 78 [0,2]])
(.cond (.t 79)
.skip
(.exit 6)))
(.seq (.block 7
(.seq (.ops [
aq 82 21 [],
aq 83 22 [],
ft 84 3 82 83 [0,1],
bZ 85 3 84 [2],
aP 86 (.call 186 [.t 85]) [3],
aq 23 86 [4,4,0,1,2,3,4]])
(.seq (.ops [
fR 24 true []])
(.seq (.seq (.ops [
cT 25 0 []])
(.block 8
(.loop yq)))
(.seq (.seq (.ops [
aq 102 24 []])
(.cond (.t 102)
(.seq (.ops [
aq 103 14 [],
aq 104 23 [],
aP 105 (.cv 1 1 [.pv (.str ⟨#[]⟩)] [(0,1,(.t 104))]) [1],
aP 106 (.append 1 16 (.t 103) (.t 105)) [0,2],
aq 14 106 [3,3,0,1,2,3]])
(.ops [
aq 107 18 [],
aq 108 21 [],
aq 109 22 [],
ft 110 3 108 109 [1,2],
bZ 111 3 110 [3],
aP 112 (.cv 3 1 [.bu,.pv (.int .i64 0),.pv (.int .i64 0)] [(0,3,(.t 111))]) [4],
aP 113 (.append 3 40 (.t 107) (.t 112)) [0,5],
aq 18 113 [6,6,0,1,2,3,4,5,6]]))
.skip))
(.seq (.ops [
aq 114 14 [],
fW 115 114 [0],
aq 116 3 [],
eu 117 .gtr 115 116 [1,2]])
(.cond (.t 117)
(.seq (.ops [
fR 8 false [],
fR 9 false [0,0]])
.ret)
.skip)))))))
(.ops [
aq 80 22 [],
cM 81 .add 80 1 [0],
aq 22 81 [1,0,1]])))
def yt:bz :=
(.seq (.seq (.ops [
aq 60 19 [],
aq 61 13 [],
fW 62 61 [1],
eu 63 .lss 60 62 [0,2]])
(.cond (.t 63)
.skip
(.exit 4)))
(.seq (.block 5
(.seq (.draw [
bZ 67 3 4 [],
bZ 68 3 5 [],
aq 69 13 [],
aq 70 19 [],
ft 71 3 69 70 [2,3],
bZ 72 3 71 [4],
aP 73 (.call 185 [.t 67,.t 68,.t 72]) [0,1,5],
aq 66 73 [6],
fc 74 66 0 [7],
fc 75 66 1 [7],
aq 20 74 [8,6,0,1,2,3,4,5,6,7,8],
aq 21 75 [9,10,0,1,2,3,4,5,6,7,8,9,10]])
(.seq (.ops [
cT 22 0 []])
(.block 6
(.loop yr)))))
(.ops [
aq 64 19 [],
cM 65 .add 64 1 [0],
aq 19 65 [1,0,1]])))
def yu:bz :=
(.seq (.block 1
(.seq (.seq (.ops [
cT 16 0 []])
(.block 2
(.loop yp)))
(.seq (.seq (.ops [
aq 57 15 [],
aq 58 2 [],
eu 59 .eql 57 58 [0,1]])
(.cond (.t 59)
(.seq (.ops [
fR 8 false [],
fR 9 true [0,0]])
.ret)
.skip))
(.seq (.ops [
aP 18 (.mv (.c .bu)) []])
(.seq (.seq (.ops [
cT 19 0 []])
(.block 4
(.loop yt)))
(.ops [
aq 118 18 [],
aq 13 118 [0,0]]))))))
(.ops [
aq 42 15 [],
cM 43 .add 42 1 [0],
aq 15 43 [1,0,1]]))
def f187:bg:=⟨119,[.t 8,.t 9],
(.seq (.ops [
df 4 0 [],
df 5 1 [],
fR 8 false [],
fR 9 false [2]])
(.seq (.ops [
bZ 26 3 4 [],
aP 27 (.call 164 [.t 26]) [0],
aP 10 (.alloc [.bu,.pv (.int .i64 0),.pv (.int .i64 0)]) [],
dg 3 10 27 [2,1,1,0,1,2]])
(.seq (.ops [
bZ 29 3 4 [],
bZ 30 3 5 [],
bZ 31 3 10 [],
aP 32 (.call 184 [.t 29,.t 30,.t 31]) [0,1,2],
aq 28 32 [3],
fc 33 28 0 [4],
fc 34 28 1 [4],
aq 11 33 [5,3,0,1,2,3,4,5],
aq 12 34 [6,7,0,1,2,3,4,5,6,7]])
(.seq (.seq (.ops [
aq 35 11 [],
cM 36 .neq 35 0 [0]])
(.cond (.t 36)
(.seq (.ops [
fR 8 false [],
fR 9 true [0,0]])
.ret)
.skip))
(.seq (.ops [
bZ 37 3 10 [],
aP 38 (.cv 3 1 [.bu,.pv (.int .i64 0),.pv (.int .i64 0)] [(0,3,(.t 37))]) [0],
aq 13 38 [1,0,1]])
(.seq (.ops [
bZ 39 3 10 [],
aP 40 (.call 186 [.t 39]) [0],
aP 41 (.cv 1 1 [.pv (.str ⟨#[]⟩)] [(0,1,(.t 40))]) [1],
aq 14 41 [2,1,0,1,2]])
(.seq (.ops [
cT 15 0 []])
(.block 0
(.loop yu)))))))))⟩
def yv:bz :=
(.seq (.seq (.ops [
aq 7 5 [],
aq 8 0 [],
fW 9 8 [1],
eu 10 .lss 7 9 [0,2],
aq 11 10 [3],
eP 12 11 true 0 [4],
eP 13 11 true 5 [4],
zD 14 11 true 1 12 13 [5,6,4],
dP 15 11 true 1 14 [7,4],
eP 16 11 true 1 [4],
dU 17 11 true (.bin .lss none (.t 15) (.t 16)) [8,9,4],
ib 18 11 17 [4,10]])
(.cond (.t 18)
.skip
(.exit 0)))
(.block 1
(.ops [
aq 19 5 [],
cM 20 .add 19 1 [0],
aq 5 20 [1,0,1]])))
def f189:bg:=⟨48,[.t 4],
(.seq (.ops [
aP 4 (.mv (.c .bu)) []])
(.seq (.ops [
cT 5 0 []])
(.seq (.block 0
(.loop yv))
(.seq (.seq (.ops [
aq 21 5 [],
aq 22 0 [],
fW 23 22 [1],
eu 24 .lss 21 23 [0,2],
aq 25 24 [3],
eP 26 25 true 0 [4],
eP 27 25 true 5 [4],
zD 28 25 true 1 26 27 [5,6,4],
dP 29 25 true 1 28 [7,4],
eP 30 25 true 1 [4],
dU 31 25 true (.bin .eql none (.t 29) (.t 30)) [8,9,4],
ib 32 25 31 [4,10]])
(.cond (.t 32)
(.seq (.ops [
aq 33 0 [],
aq 4 33 [0,0]])
.ret)
.skip))
(.seq (.ops [
aP 34 (.cv 1 0 [] []) [],
aq 35 0 [],
aq 36 5 [],
aP 37 (.slice 1 (.t 35) none (some (.t 36))) [1,2],
aP 38 (.append 1 8 (.t 34) (.t 37)) [0,3],
aq 6 38 [4,4,0,1,2,3,4]])
(.seq (.ops [
aq 39 6 [],
aq 40 1 [],
aP 41 (.cv 1 1 [.pv (.int .i64 0)] [(0,1,(.t 40))]) [1],
aP 42 (.append 1 8 (.t 39) (.t 41)) [0,2],
aq 6 42 [3,3,0,1,2,3]])
(.seq (.ops [
aq 43 6 [],
aq 44 0 [],
aq 45 5 [],
aP 46 (.slice 1 (.t 44) (some (.t 45)) none) [1,2],
aP 47 (.append 1 8 (.t 43) (.t 46)) [0,3],
aq 4 47 [4,4,0,1,2,3,4]])
.ret)))))))⟩
def zr(s:bc)(x:Spec)(d n:Int):Bool:=H4 s&&(decide (x.aZ.length<=40)&&(decide (s.nodes.length<=4)&&(decide (s.pods.length<=5)&&(decide (d<=5\/40<d)&&decide (n<=3000\/200000<n)))))
set_option maxRecDepth 100000 in
set_option maxHeartbeats 16000000 in
theorem CR{T:cL}(Rc:Std T 121 f121)(Ml:Std T 153 f153)(s:bc)(x:Spec)(d n:Int):ba T 121 [aD s,bd x,.int .i64 d,.int .i64 n] (.bool (zr s x d n)):=by
 have kf:=JN Ml s;refine gives Rc rfl ?_;unfold zr;simp only[aD,bd]at kf⊢;cases hf:H4 s
 ·rw[hf]at kf;simp only[f121,rL',aa,simprocAttr,kf.call,cB]
 ·rw[hf]at kf;by_cases c1:(x.aZ.length:Int)<=40
  ·have GI:x.aZ.length<=40:=by omega
   by_cases c2:(s.nodes.length:Int)<=4
   ·have rH:s.nodes.length<=4:=by omega
    by_cases c3:(s.pods.length:Int)<=5
    ·have Ew:s.pods.length<=5:=by omega
     by_cases c4:d<=5
     ·by_cases c5:n<=3000
      ·simp only[f121,rL',aa,simprocAttr,kf.call,c1,GI,c2,rH,c3,Ew,c4,c5,true_or,kA,bh,bw]
      ·by_cases c6:200000<n
       ·simp only[f121,rL',aa,simprocAttr,kf.call,c1,GI,c2,rH,c3,Ew,c4,c5,c6,true_or,or_true,kA,bh,bw]
       ·simp only[f121,rL',aa,simprocAttr,kf.call,c1,GI,c2,rH,c3,Ew,c4,c5,c6,true_or,or_false,kA,p9,bh,bw]
     ·by_cases c7:40<d
      ·by_cases c5:n<=3000
       ·simp only[f121,rL',aa,simprocAttr,kf.call,c1,GI,c2,rH,c3,Ew,c4,c5,c7,true_or,or_true,kA,bh,bw]
       ·by_cases c6:200000<n
        ·simp only[f121,rL',aa,simprocAttr,kf.call,c1,GI,c2,rH,c3,Ew,c4,c5,c6,c7,or_true,kA,bh,bw]
        ·simp only[f121,rL',aa,simprocAttr,kf.call,c1,GI,c2,rH,c3,Ew,c4,c5,c6,c7,or_true,or_false,kA,p9,bh,bw]
      ·simp only[f121,rL',aa,simprocAttr,kf.call,c1,GI,c2,rH,c3,Ew,c4,c7,or_false,kA,p9,bh,bw,cB]
    ·have Ew:¬s.pods.length<=5:=by omega
     simp only[f121,rL',aa,simprocAttr,kf.call,c1,GI,c2,rH,c3,Ew,kA,p9,bh,cB]
   ·have rH:¬s.nodes.length<=4:=by omega
    simp only[f121,rL',aa,simprocAttr,kf.call,c1,GI,c2,rH,kA,p9,bh,cB]
  ·have GI:¬x.aZ.length<=40:=by omega
   simp only[f121,rL',aa,simprocAttr,kf.call,c1,GI,kA,p9,bh,cB]
section
def jc(n:Int):List Int->Nat
 |[]=>0
 |a::r=>if a<n then jc n r+1 else 0
def rk(n:Int)(l:List Int):List Int:=if l[jc n l]? =some n then l else l.take (jc n l)++[n]++l.drop (jc n l)
theorem E1(n:Int):∀l,jc n l<=l.length
 |[]=>ax _
 |a::r=>by
  have:=E1 n r;simp only[jc,aC];split <;>omega
theorem Ia(n x:Int)(l:List Int):x∈rk n l↔x∈l\/x=n:=by
 unfold rk;split
 ·rename_i h;have:=dH h;constructor
  ·exact .inl
  ·rintro(h|rfl)
   ·exact h
   ·exact this
 ·have:x∈l↔x∈l.take (jc n l)\/x∈l.drop (jc n l):=by
   conv=>lhs;rw[<-List.take_append_drop (jc n l) l]
   rw[ct]
  rw[this];simp only[ct,gN];constructor
  ·rintro((h|h)|h)
   ·exact .inl (.inl h)
   ·exact .inr h
   ·exact .inl (.inr h)
  ·rintro((h|h)|h)
   ·exact .inl (.inl h)
   ·exact .inr h
   ·exact .inl (.inr h)
theorem zh(n:Int)(l:List Int):(rk n l).length<=l.length+1:=by
 unfold rk;split
 ·omega
 ·simp only[aM,hZ,List.length_drop,aC,bU];omega
section
variable{T:cL}
theorem CK(l:List Int)(n:Int)(hl:l.length<=2^29)(K:Nat)(Q:Exit->St->Prop)
    (bS:∀fr hp nx,look fr 0=.pv (.slice (l.map cF))->look fr 1=.pv (.int .i64 n)->look fr 5=.pv (.int .i64 (K:Nat))->Q (.exit 0) ⟨fr,hp,nx⟩) :
    ∀(rest:List Int) (i:Nat),l.drop i=rest->i<=l.length->i+jc n rest=K->∀(fr:List (Nat×AV)) (hp:Hl) (nx:Nat),look fr 0=.pv (.slice (l.map cF))->look fr 1=.pv (.int .i64 n)->look fr 5=.pv (.int .i64 (i:Nat))->Wp T false (.loop yv) ⟨fr,hp,nx⟩ Q:=by
 intro rest;induction rest with
 |nil =>
  intro i hd hi ho fr hp nx g0 g1 g5;have hlen:=drop_nil hd hi;simp only[jc,fa]at ho;subst ho;rw[ay,aY yv.eq_1];simp only[rL',aa,simprocAttr,g0,g1,g5,hlen,aR];refine bS _ _ _ ?_ ?_ ?_
  ·all_goals try simp only[aj,Nat.reduceEqDiff,g0]
  ·all_goals try simp only[aj,Nat.reduceEqDiff,g1]
  ·all_goals try simp only[aj,Nat.reduceEqDiff,g5]
 |cons a r ih =>
  intro i hd hi ho fr hp nx g0 g1 g5;obtain⟨aK,hlt,hw,di,cS,hb⟩:=drop_cons hd (by omega);simp only[jc]at ho;rw[ay,aY yv.eq_1];by_cases c:a<n
  ·rw[aW c]at ho;simp only[rL',aa,simprocAttr,g0,g1,g5,hlt,aK,cF,c,hw];refine ih (i+1) di cS (by omega) _ _ _ ?_ ?_ ?_
   ·all_goals try simp only[aj,Nat.reduceEqDiff,g0]
   ·all_goals try simp only[aj,Nat.reduceEqDiff,g1]
   ·all_goals try simp only[aj,Nat.reduceEqDiff,]
  ·rw[aw c,fa]at ho;subst ho;simp only[rL',aa,simprocAttr,g0,g1,g5,hlt,aK,cF,c];refine bS _ _ _ ?_ ?_ ?_
   ·all_goals try simp only[aj,Nat.reduceEqDiff,g0,cF]
   ·all_goals try simp only[aj,Nat.reduceEqDiff,g1]
   ·all_goals try simp only[aj,Nat.reduceEqDiff,g5]
theorem pR(l:List Int):cq 1 (l.map cF)=true:=by
 induction l with
 |nil=>rfl
 |cons m r ih=>exact ih
set_option maxRecDepth 100000 in
set_option maxHeartbeats 16000000 in
theorem Ba(Au:Std T 189 f189)(l:List Int)(n:Int)(hl:l.length<=2^28):ba T 189 [.slice (l.map cF),.int .i64 n] (.slice ((rk n l).map cF)):=by
 refine gives Au rfl ?_;have hle:=E1 n l;have z0:((0:Nat):Int)=0:=rfl;have aL:=pR l;have P2:jc n l<=(l.map cF).length:=by rw[al];exact hle
 have LB:((l.map cF).take (jc n l))=(l.take (jc n l)).map cF:=List.map_take.symm;have LC:((l.map cF).drop (jc n l)).take (l.length-jc n l)=(l.drop (jc n l)).map cF:=by
  rw[qo (by simp),List.map_drop]
 simp only[f189,rL',aa,simprocAttr];have SU:∀a:PV,cq 1 [[a]]=true:=fun _=>rfl;have My:(l.take (jc n l)).length<=2^30:=by rw[hZ];omega
 have Qk:(l.take (jc n l)).length+1<=2^30:=by rw[hZ];omega
 have Tb:(l.take (jc n l)).length+1+(l.drop (jc n l)).length<=2^30:=by rw[hZ,List.length_drop];omega
 refine CK l n (by omega) (jc n l) _ (fun fr hp nx g0 g1 g5=>?_) l 0 rfl (aN _) (by omega) _ _ _ ?_ ?_ ?_
 ·have n0:¬nx+1=nx:=by omega
  have n1:¬nx=nx+1:=by omega
  have n2:¬nx+2=nx+1:=by omega
  have n3:¬nx+1+1=nx+1:=by omega
  unfold rk;by_cases hK:jc n l<l.length
  ·obtain⟨v,hv⟩:∃v,l[jc n l]? =some v:=⟨_,nR hK⟩;have hlt:((jc n l:Nat):Int)<(l.length:Int):=by omega
   by_cases e:v=n
   ·subst e;rw[aW hv];simp only[rL',aa,simprocAttr,g0,g1,g5,hlt,hv,cF]
   ·rw[aw (by rw[hv];simpa using e)];simp only[rL',aa,simprocAttr,g0,g1,g5,hlt,hv,cF,e,bt,chunk,dW,fT,eN,nZ,nf,pR,SU,LB,LC,n0,n1,n2,n3,My,Qk,Tb,fe,ia,bY,rA,aN,hle,P2,Nat.sub_zero,gH,al,aM,bU,aC,aQ,aE];simp only[bj,aX,az,cF]
  ·have hv:l[jc n l]? =none:=List.getElem?_eq_none (by omega);have hlt:¬((jc n l:Nat):Int)<(l.length:Int):=by omega
   rw[aw (by rw[hv];simp)];simp only[rL',aa,simprocAttr,g0,g1,g5,hlt,bt,chunk,dW,fT,eN,nZ,nf,pR,SU,LB,LC,n0,n1,n2,n3,My,Qk,Tb,fe,ia,bY,rA,aN,hle,P2,Nat.sub_zero,gH,al,aM,bU,aC,aQ,aE];simp only[bj,aX,az,cF]
 ·all_goals try simp only[aj,Nat.reduceEqDiff,]
 ·all_goals try simp only[aj,Nat.reduceEqDiff,]
 ·all_goals try simp only[aj,Nat.reduceEqDiff,]
  rfl
set_option maxRecDepth 100000 in
set_option maxHeartbeats 16000000 in
theorem Fh(t:State)(hl:t.pods.length<=1000)(ht:∀p∈t.pods,p.wf)(Q:Exit->St->Prop)
    (bS:∀fr hp nx lL,lL<nx->1<=lL->look fr 1=.ptr 0 0 0->look fr 3=.ms lL->ah hp lL=.row 1 ((tj t.pods.length::t.pods.flatMap ju).map pD)->ah hp 0=.var [.pv (.slice (t.pods.map aJ)),.pv (.int .i64 t.pre),.pv (.int .i64 t.eW)]->Q (.exit 0) ⟨fr,hp,nx⟩) :
    ∀(rest:List dx) (i:Nat) (acc:List Nat),t.pods.drop i=rest->i<=t.pods.length->acc++rest.flatMap ju=tj t.pods.length::t.pods.flatMap ju->acc.length<=8*i+1->∀(fr:List (Nat×AV)) (hp:Hl) (nx lL:Nat),1<=lL->lL<nx ->
     look fr 1=.ptr 0 0 0->look fr 3=.ms lL->look fr 4=.pv (.int .i64 i) ->
     ah hp lL=.row 1 (acc.map pD)->ah hp 0=.var [.pv (.slice (t.pods.map aJ)),.pv (.int .i64 t.pre),.pv (.int .i64 t.eW)]->Wp T false (.loop yo) ⟨fr,hp,nx⟩ Q:=by
 intro rest;induction rest with
 |nil =>
  intro i acc hd hi ho ha fr hp nx lL h1 hlt g1 g3 g4 bl b0;have hlen:=drop_nil hd hi;simp only[NQ,bH]at ho;subst ho;rw[ay,aY yo.eq_1];simp only[rL',aa,simprocAttr,g1,b0,g4,hlen,aR,al];refine bS _ _ _ lL hlt h1 ?_ ?_ bl b0
  all_goals try simp only[aj,Nat.reduceEqDiff,g1,g3]
 |cons p r ih =>
  intro i acc hd hi ho ha fr hp nx lL h1 hlt g1 g3 g4 bl b0;obtain⟨aK,MI,hw,di,cS,hb⟩:=drop_cons hd (by omega);have wb:=ht p (dH aK);have n0:¬nx=lL:=by omega
  have n1:¬nx+1=lL:=by omega
  have n3:¬nx=0:=by omega
  have n4:¬nx+1=0:=by omega
  have n5:¬lL=0:=by omega
  have n7:¬lL=nx:=by omega
  have m1:¬lL=nx+1+1:=by omega
  have m3:¬nx+1+1=0:=by omega
  have OM:acc.length+8<=2^30:=by omega
  rw[ay,aY yo.eq_1];simp only[rL',aa,simprocAttr,g1,g3,g4,b0,MI,aK,aJ,bl,chunk,cq,bL,bW,bt,dW,fT,eN,iP,al,aC,bU,n0,n1,n3,OM,hw];refine ih (i+1) (acc++ju p) di cS (by rw[<-ho,iy,gn]) (by rw[aM];simp only[ju,Bo,aX,az,aG,aE,aC,bU];omega) _ _ _ (nx+1+1) (by omega) (by omega) ?_ ?_ ?_ ?_ ?_
  ·all_goals try simp only[aj,Nat.reduceEqDiff,g1]
  ·all_goals try simp only[aj,Nat.reduceEqDiff,]
  ·all_goals try simp only[aj,Nat.reduceEqDiff,]
  ·simp only[aj,Nat.reduceEqDiff,m1];rw[bj,I5 wb]
  ·simp only[aj,Nat.reduceEqDiff,m3,n3,n4,n5];simp only[b0]
set_option maxRecDepth 100000 in
set_option maxHeartbeats 16000000 in
theorem Kv(Rm:Std T 186 f186)(Mk:Std T 148 f148)(He:Std T 150 f150)(hf:T.flat 148=false)(t:State)(hl:t.pods.length<=1000)(ht:∀p∈t.pods,p.wf):ba T 186 [ar t] (.str (fO t)):=by
 refine gives Rm rfl ?_;simp only[f186,rL',aa,simprocAttr,ar,bt,chunk];refine Fh t hl ht _ (fun fr hp nx lL i1 i2 g1 g3 bl b0=>?_) t.pods 0 [tj t.pods.length] rfl (aN _) rfl (by simp) _ _ _ 1 (ax _) ?_ ?_ ?_ ?_ ?_ ?_
 ·have n0:¬nx=0:=by omega
  have n1:¬nx=lL:=by omega
  have n2:¬nx+1=lL:=by omega
  have n3:¬lL=nx+1:=by omega
  have wR:∀l:List dx,(l.flatMap ju).length=8*l.length:=fun l=>by
   induction l with
   |nil=>rfl
   |cons p r ih =>
    rw[iy,aM,ih];simp only[ju,Bo,aX,az,aG,aE,aC,bU];omega
  have wR:=wR t.pods;have hc:(t.pods.flatMap ju).length+1+2<=2^30:=by omega
  have k:=KS He Mk (qX t) (z7 t) (by simp only[qX,aC,aM,wR,al,bU];omega);have hk:(qX t).map pD=((tj t.pods.length::t.pods.flatMap ju).map pD)++[[.int .u64 (IntKind.u64.wrap t.pre)],[.int .u64 (IntKind.u64.wrap t.eW)]]:=by
   simp only[qX,aX,bj,az,pD,mR,aG]
  simp only[wx,ng]at k;rw[hk]at k;simp only[rL',aa,simprocAttr,g1,g3,b0,bl,n0,n1,n2,bt,chunk,cq,bL,bW,dW,fT,eN,al,aC,bU,hc];refine k.Ln hf rfl ?_ ?_
  ·simp only[lg,iE,gi,nT,uF,pB,nm,gW,iU,mkFun,ah,gP,fm,cm,rL',aa,simprocAttr,fB,sm,qH,n3]
  ·simp only[lg,iE,gi,nT,uF,pB,nm,gW,iU,mkFun,ah,gP,fm,cm,rL',aa,simprocAttr,fB,sm,qH,n3,dW,pS,fO]
 ·decide
 ·rfl
 ·rfl
 ·rfl
 ·simp only[aj,Nat.reduceEqDiff];rfl
 ·simp only[aj,Nat.reduceEqDiff]
end
end
section
def iJ(id:Int):Nat->List fD->Int
 |_,[]=> -1
 |i,p::r=>if p.id=id then i else iJ id (i+1) r
theorem qc(id:Int):∀(l:List fD) (i:Nat),(iJ id i l<0)↔gy id l=none
 |[],i=>by simp[iJ,gy]
 |p::r,i=>by
  by_cases hp:p.id=id
  ·simp[iJ,gy,hp] <;>omega
  ·have:=qc id r (i+1);simpa[iJ,gy,hp]using this
theorem qd(id:Int):∀(l:List Node) (i:Nat),(iK id i l<0)↔dv id l=none
 |[],i=>by simp[iK,dv]
 |p::r,i=>by
  by_cases hp:p.id=id
  ·simp[iK,dv,hp] <;>omega
  ·have:=qd id r (i+1);simpa[iK,dv,hp]using this
structure zJ(T:cL):Prop where
 Re:Std T 151 f151
 qO:Std T 154 f154
 oC:Std T 155 f155
 EZ:Std T 159 f159
 Hg:Std T 160 f160
 Ar:Std T 141 f141
section
variable{T:cL}
theorem oZ(EZ:Std T 159 f159)(n:Int):ba T 159 [.int .i64 n] (.bool (ir n)):=by
 refine gives EZ rfl ?_;unfold ir;by_cases h1:0<=n
 ·simp only[f159,rL',aa,simprocAttr,h1,bh]
 ·simp only[f159,rL',aa,simprocAttr,h1,cB]
theorem Cd(Hg:Std T 160 f160)(n last:Int):ba T 160 [.int .i64 n,.int .i64 last] (.int .i64 (Qw n last)):=by
 refine gives Hg rfl ?_;unfold Qw;by_cases h1:n<1
 ·rw[aW (.inl h1)];simp only[f160,rL',aa,simprocAttr,h1]
 ·by_cases h2:2147483647<n
  ·rw[aW (.inr h2)];simp only[f160,rL',aa,simprocAttr,h1,h2]
  ·rw[aw (by omega)];by_cases h3:n=last
   ·rw[aW h3];simp only[f160,rL',aa,simprocAttr,h1,h2,bI h3]
   ·rw[aw h3];by_cases h4:n<last
    ·rw[aW h4];simp only[f160,rL',aa,simprocAttr,h1,h2,h3,h4]
    ·rw[aw h4];simp only[f160,rL',aa,simprocAttr,h1,h2,h3,h4]
theorem Cz(s:bc)(id:Int)(hl:s.aU.length<=2^30)(Q:Exit->St->Prop)(o:Int)
    (bS:o= -1->∀fr hp nx,Q (.exit 0) ⟨fr,hp,nx⟩) (dI:∀fr hp nx,look fr 4=.pv (.int .i64 o)->Q .ret ⟨fr,hp,nx⟩) :
    ∀(rest:List fD) (i:Nat),s.aU.drop i=rest->i<=s.aU.length->iJ id i rest=o->∀(fr:List (Nat×AV)) (hp:Hl) (nx:Nat),look fr 5=.pv (.int .i64 i)->look fr 1=.pv (.int .i64 id)->look fr 2=.ptr 0 0 0 ->
     ah hp 0=.var [.pv (.slice (s.nodes.map bB)),.pv (.slice (s.aU.map bN)),.pv (.slice (s.pods.map aJ))]->Wp T false (.loop xZ) ⟨fr,hp,nx⟩ Q:=by
 intro rest;induction rest with
 |nil =>
  intro i hd hi ho fr hp nx h5 h1 h2 b0;have hlen:=drop_nil hd hi;rw[ay,aY xZ.eq_1];simp only[rL',aa,simprocAttr,h5,h1,h2,b0,hlen,aR];exact bS ho.symm _ _ _
 |cons n r ih =>
  intro i hd hi ho fr hp nx h5 h1 h2 b0;obtain⟨aK,hlt,hw,di,cS,hb⟩:=drop_cons hd hl;simp only[iJ]at ho;rw[ay,aY xZ.eq_1];by_cases hk:n.id=id
  ·rw[aW hk]at ho;simp only[rL',aa,simprocAttr,h5,h1,h2,b0,hlt,aK,bN,hk];exact dI _ _ _ (by simp only[bG,Nat.reduceEqDiff,bA,aI,<-ho])
  ·rw[aw hk]at ho;simp only[rL',aa,simprocAttr,h5,h1,h2,b0,hlt,aK,bN,hk,hw];refine ih (i+1) di cS ho _ _ _ ?_ ?_ ?_ b0
   all_goals try simp only[aj,Nat.reduceEqDiff,h1,h2]
theorem AQ(qO:Std T 154 f154)(s:bc)(id:Int)(hl:s.aU.length<=2^30):ba T 154 [aD s,.int .i64 id] (.int .i64 (iJ id 0 s.aU)):=by
 refine gives qO rfl ?_;simp only[f154,rL',aa,simprocAttr,aD];refine Cz s id hl _ (iJ id 0 s.aU) (fun ho fr hp nx=>?_) (fun fr hp nx h4=>?_) s.aU 0 rfl (aN _) rfl _ _ _ rfl rfl rfl rfl
 ·simp only[rL',aa,simprocAttr,ho]
 ·simp only[rL',aa,simprocAttr,h4]
theorem FB(s:bc)(id:Int)(hl:s.pods.length<=2^30)(Q:Exit->St->Prop)(o:Int)
    (bS:o= -1->∀fr hp nx,Q (.exit 0) ⟨fr,hp,nx⟩) (dI:∀fr hp nx,look fr 4=.pv (.int .i64 o)->Q .ret ⟨fr,hp,nx⟩) :
    ∀(rest:List dx) (i:Nat),s.pods.drop i=rest->i<=s.pods.length->bx id i rest=o->∀(fr:List (Nat×AV)) (hp:Hl) (nx:Nat),look fr 5=.pv (.int .i64 i)->look fr 1=.pv (.int .i64 id)->look fr 2=.ptr 0 0 0 ->
     ah hp 0=.var [.pv (.slice (s.nodes.map bB)),.pv (.slice (s.aU.map bN)),.pv (.slice (s.pods.map aJ))]->Wp T false (.loop y8) ⟨fr,hp,nx⟩ Q:=by
 intro rest;induction rest with
 |nil =>
  intro i hd hi ho fr hp nx h5 h1 h2 b0;have hlen:=drop_nil hd hi;rw[ay,aY y8.eq_1];simp only[rL',aa,simprocAttr,h5,h1,h2,b0,hlen,aR];exact bS ho.symm _ _ _
 |cons n r ih =>
  intro i hd hi ho fr hp nx h5 h1 h2 b0;obtain⟨aK,hlt,hw,di,cS,hb⟩:=drop_cons hd hl;simp only[bx]at ho;rw[ay,aY y8.eq_1];by_cases hk:n.id=id
  ·rw[aW hk]at ho;simp only[rL',aa,simprocAttr,h5,h1,h2,b0,hlt,aK,aJ,hk];exact dI _ _ _ (by simp only[bG,Nat.reduceEqDiff,bA,aI,<-ho])
  ·rw[aw hk]at ho;simp only[rL',aa,simprocAttr,h5,h1,h2,b0,hlt,aK,aJ,hk,hw];refine ih (i+1) di cS ho _ _ _ ?_ ?_ ?_ b0
   all_goals try simp only[aj,Nat.reduceEqDiff,h1,h2]
theorem KO(Hf:Std T 156 f156)(s:bc)(id:Int)(hl:s.pods.length<=2^30):ba T 156 [aD s,.int .i64 id] (.int .i64 (bx id 0 s.pods)):=by
 refine gives Hf rfl ?_;simp only[f156,rL',aa,simprocAttr,aD];refine FB s id hl _ (bx id 0 s.pods) (fun ho fr hp nx=>?_) (fun fr hp nx h4=>?_) s.pods 0 rfl (aN _) rfl _ _ _ rfl rfl rfl rfl
 ·simp only[rL',aa,simprocAttr,ho]
 ·simp only[rL',aa,simprocAttr,h4]
theorem s9{n last c:Int}(h:fL n last c=0):n<=2147483647:=by
 have hi:vP n last=0:=by
  unfold fL at h;split at h
  ·exact h
  ·rename_i h0;simpa using h0
 unfold vP at hi;split at hi
 ·omega
 ·split at hi <;>omega
set_option maxRecDepth 100000 in
set_option maxHeartbeats 4000000 in
theorem LY(S:zJ T)(s:bc)(hn:s.nodes.length<=2^28)(hl:s.aU.length<=2^28)(Bw:s.pods.length<=2^28)(a0:Int)(G4:0<=a0)(OJ:a0<=2^29)(Q:Exit->St->Prop)(gS:Option (Int×Int))
    (bS:gS=none->∀fr hp nx,1<=nx->look fr 1=.ptr 0 0 0->look fr 5=.pv (.int .i64 (a0+(s.nodes.length:Int)))->ah hp 0=.var [.pv (.slice (s.nodes.map bB)),.pv (.slice (s.aU.map bN)),.pv (.slice (s.pods.map aJ))]->Q (.exit 0) ⟨fr,hp,nx⟩)
    (dI:∀c a,gS=some (c,a)->∀fr hp nx,look fr 2=.pv (.int .i64 c)->look fr 3=.pv (.int .i64 a)->Q .ret ⟨fr,hp,nx⟩) :
    ∀(rest:List Node) (i:Nat) (last:Int),s.nodes.drop i=rest->i<=s.nodes.length->last<=2147483647->fU Node.id da last (a0+i) rest=gS->∀(fr:List (Nat×AV)) (hp:Hl) (nx:Nat),1<=nx->look fr 1=.ptr 0 0 0 ->
     ah hp 0=.var [.pv (.slice (s.nodes.map bB)),.pv (.slice (s.aU.map bN)),.pv (.slice (s.pods.map aJ))]->look fr 4=.pv (.int .i64 last)->look fr 5=.pv (.int .i64 (a0+i))->look fr 6=.pv (.int .i64 i)->Wp T false (.loop ug) ⟨fr,hp,nx⟩ Q:=by
 intro rest;induction rest with
 |nil =>
  intro i last hd hi sN ho fr hp nx gR g1 b0 g4 g5 gI;have hlen:=drop_nil hd hi;rw[ay,aY ug.eq_1];simp only[rL',aa,simprocAttr,g1,b0,gI,hlen,aR];refine bS ho.symm _ _ _ gR ?_ ?_ b0
  all_goals try simp only[aj,Nat.reduceEqDiff,g1,g5]
  rw[hlen]
 |cons x r ih =>
  intro i last hd hi sN ho fr hp nx gR g1 b0 g4 g5 gI;obtain⟨aK,hlt,hw,di,cS,Bu⟩:=drop_cons hd (by omega);have n0:¬nx=0:=by omega
  have wa:IntKind.i64.wrap (a0+(i:Int)+1)=a0+((i+1:Nat):Int):=by rw[f9] <;>omega
  have ki:=Cd S.Hg x.id last;rw[<-yV sN]at ki;have fin:∀c,fL x.id last (da x)=c->c≠0->∀fr hp nx,look fr 2=.pv (.int .i64 c)->look fr 3=.pv (.int .i64 (a0+i))->Q .ret ⟨fr,hp,nx⟩:=by
   intro c h1 h2;refine dI c _ ?_;rw[<-ho,fU];unfold jl;rw[h1,aW h2,jN]
  have CH:fL x.id last (da x)=0->∀fE hp' cE,1<=cE->look fE 1=look fr 1->ah hp' 0=ah hp 0->look fE 4=.pv (.int .i64 x.id)->look fE 5=.pv (.int .i64 (a0+((i+1:Nat):Int)))->look fE 6=.pv (.int .i64 ((i+1:Nat):Int))->Wp T false (.loop ug) ⟨fE,hp',cE⟩ Q:=by
   intro h1 fE hp' cE q1 q2 q3 q4 q5 q6;refine ih (i+1) x.id di cS (s9 h1) ?_ fE hp' cE q1 (q2.trans g1) (q3.trans b0) q4 q5 q6;rw[<-ho,fU];unfold jl;rw[h1,aw (by simp),mD,show a0+((i+1:Nat):Int)=a0+i+1 by omega]
  have kf:=DD S.Ar x.held x.cap;simp only[cD,cj]at kf;rw[ay,aY ug.eq_1];by_cases dT:vP x.id last=0
  ·have vO:fL x.id last (da x)=da x:=by unfold fL;rw[aw (by simpa using dT)]
   rw[dT]at ki;by_cases c1:x.bX<1
   ·have hb:da x=1:=by unfold da;rw[aw (by omega)]
    simp only[rL',aa,simprocAttr,g1,b0,g4,g5,gI,hlt,aK,n0,ki.call,bB,kf.call,c1];refine fin _ (vO.trans hb) (by decide) _ _ _ ?_ ?_
    all_goals try simp only[aj,Nat.reduceEqDiff,g5]
   ·by_cases c2:8<x.bX
    ·have hb:da x=1:=by unfold da;rw[aw (by omega)]
     simp only[rL',aa,simprocAttr,g1,b0,g4,g5,gI,hlt,aK,n0,ki.call,bB,kf.call,c1,c2];refine fin _ (vO.trans hb) (by decide) _ _ _ ?_ ?_
     all_goals try simp only[aj,Nat.reduceEqDiff,g5]
    ·cases hf:pJ x.held x.cap
     ·have hb:da x=1:=by unfold da;rw[aw (by simp[hf])]
      rw[hf]at kf;simp only[rL',aa,simprocAttr,g1,b0,g4,g5,gI,hlt,aK,n0,ki.call,bB,kf.call,c1,c2];refine fin _ (vO.trans hb) (by decide) _ _ _ ?_ ?_
      all_goals try simp only[aj,Nat.reduceEqDiff,g5]
     ·have hb:da x=0:=by unfold da;rw[aW ⟨by omega,by omega,hf⟩]
      rw[hf]at kf;simp only[rL',aa,simprocAttr,g1,b0,g4,g5,gI,hlt,aK,n0,ki.call,bB,kf.call,c1,c2,wa,hw];refine CH (vO.trans hb) _ _ _ (by omega) ?_ ?_ ?_ ?_ ?_
      all_goals try simp only[aj,Nat.reduceEqDiff,g1,n0,b0]
  ·have vO:fL x.id last (da x)=vP x.id last:=by unfold fL;rw[aW dT]
   simp only[rL',aa,simprocAttr,g1,b0,g4,g5,gI,hlt,aK,n0,ki.call,bB,kf.call,dT];refine fin _ vO dT _ _ _ ?_ ?_
   all_goals try simp only[aj,Nat.reduceEqDiff,g5]
set_option maxRecDepth 100000 in
set_option maxHeartbeats 4000000 in
theorem LZ(S:zJ T)(s:bc)(hn:s.nodes.length<=2^28)(hl:s.aU.length<=2^28)(Bw:s.pods.length<=2^28)(a0:Int)(G4:0<=a0)(OJ:a0<=2^29)(Q:Exit->St->Prop)(gS:Option (Int×Int))
    (bS:gS=none->∀fr hp nx,1<=nx->look fr 1=.ptr 0 0 0->look fr 5=.pv (.int .i64 (a0+(s.aU.length:Int)))->ah hp 0=.var [.pv (.slice (s.nodes.map bB)),.pv (.slice (s.aU.map bN)),.pv (.slice (s.pods.map aJ))]->Q (.exit 2) ⟨fr,hp,nx⟩)
    (dI:∀c a,gS=some (c,a)->∀fr hp nx,look fr 2=.pv (.int .i64 c)->look fr 3=.pv (.int .i64 a)->Q .ret ⟨fr,hp,nx⟩) :
    ∀(rest:List fD) (i:Nat) (last:Int),s.aU.drop i=rest->i<=s.aU.length->last<=2147483647->fU fD.id cY last (a0+i) rest=gS->∀(fr:List (Nat×AV)) (hp:Hl) (nx:Nat),1<=nx->look fr 1=.ptr 0 0 0 ->
     ah hp 0=.var [.pv (.slice (s.nodes.map bB)),.pv (.slice (s.aU.map bN)),.pv (.slice (s.pods.map aJ))]->look fr 4=.pv (.int .i64 last)->look fr 5=.pv (.int .i64 (a0+i))->look fr 10=.pv (.int .i64 i)->Wp T false (.loop uh) ⟨fr,hp,nx⟩ Q:=by
 intro rest;induction rest with
 |nil =>
  intro i last hd hi sN ho fr hp nx gR g1 b0 g4 g5 gI;have hlen:=drop_nil hd hi;rw[ay,aY uh.eq_1];simp only[rL',aa,simprocAttr,g1,b0,gI,hlen,aR];refine bS ho.symm _ _ _ gR ?_ ?_ b0
  all_goals try simp only[aj,Nat.reduceEqDiff,g1,g5]
  rw[hlen]
 |cons x r ih =>
  intro i last hd hi sN ho fr hp nx gR g1 b0 g4 g5 gI;obtain⟨aK,hlt,hw,di,cS,Bu⟩:=drop_cons hd (by omega);have n0:¬nx=0:=by omega
  have wa:IntKind.i64.wrap (a0+(i:Int)+1)=a0+((i+1:Nat):Int):=by rw[f9] <;>omega
  have ki:=Cd S.Hg x.id last;rw[<-yV sN]at ki;have fin:∀c,fL x.id last (cY x)=c->c≠0->∀fr hp nx,look fr 2=.pv (.int .i64 c)->look fr 3=.pv (.int .i64 (a0+i))->Q .ret ⟨fr,hp,nx⟩:=by
   intro c h1 h2;refine dI c _ ?_;rw[<-ho,fU];unfold jl;rw[h1,aW h2,jN]
  have CH:fL x.id last (cY x)=0->∀fE hp' cE,1<=cE->look fE 1=look fr 1->ah hp' 0=ah hp 0->look fE 4=.pv (.int .i64 x.id)->look fE 5=.pv (.int .i64 (a0+((i+1:Nat):Int)))->look fE 10=.pv (.int .i64 ((i+1:Nat):Int))->Wp T false (.loop uh) ⟨fE,hp',cE⟩ Q:=by
   intro h1 fE hp' cE q1 q2 q3 q4 q5 q6;refine ih (i+1) x.id di cS (s9 h1) ?_ fE hp' cE q1 (q2.trans g1) (q3.trans b0) q4 q5 q6;rw[<-ho,fU];unfold jl;rw[h1,aw (by simp),mD,show a0+((i+1:Nat):Int)=a0+i+1 by omega]
  have k1:=oZ S.EZ x.so;have k2:=oZ S.EZ x.min;have k3:=oZ S.EZ x.max;rw[ay,aY uh.eq_1];by_cases dT:vP x.id last=0
  ·have vO:fL x.id last (cY x)=cY x:=by unfold fL;rw[aw (by simpa using dT)]
   rw[dT]at ki;cases c1:ir x.so
   ·have hb:cY x=1:=by unfold cY;rw[aw (by simp[c1])]
    rw[c1]at k1;simp only[rL',aa,simprocAttr,g1,b0,g4,g5,gI,hlt,aK,n0,ki.call,bN,k1.call,k2.call,k3.call];refine fin _ (vO.trans hb) (by decide) _ _ _ ?_ ?_
    all_goals try simp only[aj,Nat.reduceEqDiff,g5]
   ·cases c2:ir x.min
    ·have hb:cY x=1:=by unfold cY;rw[aw (by simp[c2])]
     rw[c1]at k1;rw[c2]at k2;simp only[rL',aa,simprocAttr,g1,b0,g4,g5,gI,hlt,aK,n0,ki.call,bN,k1.call,k2.call,k3.call];refine fin _ (vO.trans hb) (by decide) _ _ _ ?_ ?_
     all_goals try simp only[aj,Nat.reduceEqDiff,g5]
    ·cases c3:ir x.max
     ·have hb:cY x=1:=by unfold cY;rw[aw (by simp[c3])]
      rw[c1]at k1;rw[c2]at k2;rw[c3]at k3;simp only[rL',aa,simprocAttr,g1,b0,g4,g5,gI,hlt,aK,n0,ki.call,bN,k1.call,k2.call,k3.call];refine fin _ (vO.trans hb) (by decide) _ _ _ ?_ ?_
      all_goals try simp only[aj,Nat.reduceEqDiff,g5]
     ·rw[c1]at k1;rw[c2]at k2;rw[c3]at k3;by_cases c4:x.max<x.min
      ·have hb:cY x=1:=by unfold cY;rw[aw (by omega)]
       simp only[rL',aa,simprocAttr,g1,b0,g4,g5,gI,hlt,aK,n0,ki.call,bN,k1.call,k2.call,k3.call,c4];refine fin _ (vO.trans hb) (by decide) _ _ _ ?_ ?_
       all_goals try simp only[aj,Nat.reduceEqDiff,g5]
      ·have hb:cY x=0:=by unfold cY;rw[aW ⟨c1,c2,c3,by omega⟩]
       simp only[rL',aa,simprocAttr,g1,b0,g4,g5,gI,hlt,aK,n0,ki.call,bN,k1.call,k2.call,k3.call,c4,wa,hw];refine CH (vO.trans hb) _ _ _ (by omega) ?_ ?_ ?_ ?_ ?_
       all_goals try simp only[aj,Nat.reduceEqDiff,g1,n0,b0]
  ·have vO:fL x.id last (cY x)=vP x.id last:=by unfold fL;rw[aW dT]
   simp only[rL',aa,simprocAttr,g1,b0,g4,g5,gI,hlt,aK,n0,ki.call,bN,k1.call,k2.call,k3.call,dT];refine fin _ vO dT _ _ _ ?_ ?_
   all_goals try simp only[aj,Nat.reduceEqDiff,g5]
set_option maxRecDepth 100000 in
set_option maxHeartbeats 4000000 in
theorem M0(S:zJ T)(s:bc)(hn:s.nodes.length<=2^28)(hl:s.aU.length<=2^28)(Bw:s.pods.length<=2^28)(a0:Int)(G4:0<=a0)(OJ:a0<=2^29)(Q:Exit->St->Prop)(gS:Option (Int×Int))
    (bS:gS=none->∀fr hp nx,1<=nx->look fr 1=.ptr 0 0 0->look fr 5=.pv (.int .i64 (a0+(s.pods.length:Int)))->ah hp 0=.var [.pv (.slice (s.nodes.map bB)),.pv (.slice (s.aU.map bN)),.pv (.slice (s.pods.map aJ))]->Q (.exit 4) ⟨fr,hp,nx⟩)
    (dI:∀c a,gS=some (c,a)->∀fr hp nx,look fr 2=.pv (.int .i64 c)->look fr 3=.pv (.int .i64 a)->Q .ret ⟨fr,hp,nx⟩) :
    ∀(rest:List dx) (i:Nat) (last:Int),s.pods.drop i=rest->i<=s.pods.length->last<=2147483647->fU dx.id (ej s) last (a0+i) rest=gS->∀(fr:List (Nat×AV)) (hp:Hl) (nx:Nat),1<=nx->look fr 1=.ptr 0 0 0 ->
     ah hp 0=.var [.pv (.slice (s.nodes.map bB)),.pv (.slice (s.aU.map bN)),.pv (.slice (s.pods.map aJ))]->look fr 4=.pv (.int .i64 last)->look fr 5=.pv (.int .i64 (a0+i))->look fr 16=.pv (.int .i64 i)->Wp T false (.loop ui) ⟨fr,hp,nx⟩ Q:=by
 intro rest;induction rest with
 |nil =>
  intro i last hd hi sN ho fr hp nx gR g1 b0 g4 g5 gI;have hlen:=drop_nil hd hi;rw[ay,aY ui.eq_1];simp only[rL',aa,simprocAttr,g1,b0,gI,hlen,aR];refine bS ho.symm _ _ _ gR ?_ ?_ b0
  all_goals try simp only[aj,Nat.reduceEqDiff,g1,g5]
  rw[hlen]
 |cons x r ih =>
  intro i last hd hi sN ho fr hp nx gR g1 b0 g4 g5 gI;obtain⟨aK,hlt,hw,di,cS,Bu⟩:=drop_cons hd (by omega);have n0:¬nx=0:=by omega
  have wa:IntKind.i64.wrap (a0+(i:Int)+1)=a0+((i+1:Nat):Int):=by rw[f9] <;>omega
  have ki:=Cd S.Hg x.id last;rw[<-yV sN]at ki;have fin:∀c,fL x.id last ((ej s) x)=c->c≠0->∀fr hp nx,look fr 2=.pv (.int .i64 c)->look fr 3=.pv (.int .i64 (a0+i))->Q .ret ⟨fr,hp,nx⟩:=by
   intro c h1 h2;refine dI c _ ?_;rw[<-ho,fU];unfold jl;rw[h1,aW h2,jN]
  have CH:fL x.id last ((ej s) x)=0->∀fE hp' cE,1<=cE->look fE 1=look fr 1->ah hp' 0=ah hp 0->look fE 4=.pv (.int .i64 x.id)->look fE 5=.pv (.int .i64 (a0+((i+1:Nat):Int)))->look fE 16=.pv (.int .i64 ((i+1:Nat):Int))->Wp T false (.loop ui) ⟨fE,hp',cE⟩ Q:=by
   intro h1 fE hp' cE q1 q2 q3 q4 q5 q6;refine ih (i+1) x.id di cS (s9 h1) ?_ fE hp' cE q1 (q2.trans g1) (q3.trans b0) q4 q5 q6;rw[<-ho,fU];unfold jl;rw[h1,aw (by simp),mD,show a0+((i+1:Nat):Int)=a0+i+1 by omega]
  have k1:=oZ S.EZ x.prio;have k2:=AQ S.qO s x.load (by omega);have k3:=lA S.oC s x.node (by omega);simp only[aD]at k2 k3;rw[ay,aY ui.eq_1];by_cases dT:vP x.id last=0
  ·have vO:fL x.id last ((ej s) x)=(ej s) x:=by unfold fL;rw[aw (by simpa using dT)]
   rw[dT]at ki;cases c1:ir x.prio
   ·have hb:ej s x=1:=by unfold ej;rw[aW c1]
    rw[c1]at k1;simp only[rL',aa,simprocAttr,g1,b0,g4,g5,gI,hlt,aK,n0,ki.call,aJ,k1.call,k2.call,k3.call];refine fin _ (vO.trans hb) (by decide) _ _ _ ?_ ?_
    all_goals try simp only[aj,Nat.reduceEqDiff,g5]
   ·rw[c1]at k1;by_cases c2:iJ x.load 0 s.aU<0
    ·have hb:ej s x=4:=by unfold ej;rw[aw (by simp[c1]),aW (.inl ((qc _ _ _).1 c2))]
     simp only[rL',aa,simprocAttr,g1,b0,g4,g5,gI,hlt,aK,n0,ki.call,aJ,k1.call,k2.call,k3.call,c2];refine fin _ (vO.trans hb) (by decide) _ _ _ ?_ ?_
     all_goals try simp only[aj,Nat.reduceEqDiff,g5]
    ·have rH:gy x.load s.aU≠none:=fun h=>c2 ((qc _ _ _).2 h);by_cases c3:x.node=0
     ·have hb:ej s x=0:=by unfold ej;rw[aw (by simp[c1]),aw (by simp[rH,c3])]
      have d3:=bI c3;simp only[rL',aa,simprocAttr,g1,b0,g4,g5,gI,hlt,aK,n0,ki.call,aJ,k1.call,k2.call,k3.call,c2,d3,wa,hw];refine CH (vO.trans hb) _ _ _ (by omega) ?_ ?_ ?_ ?_ ?_
      all_goals try simp only[aj,Nat.reduceEqDiff,g1,n0,b0]
     ·by_cases c4:iK x.node 0 s.nodes<0
      ·have hb:ej s x=4:=by unfold ej;rw[aw (by simp[c1]),aW (.inr ⟨c3,(qd _ _ _).1 c4⟩)]
       simp only[rL',aa,simprocAttr,g1,b0,g4,g5,gI,hlt,aK,n0,ki.call,aJ,k1.call,k2.call,k3.call,c2,c3,c4];refine fin _ (vO.trans hb) (by decide) _ _ _ ?_ ?_
       all_goals try simp only[aj,Nat.reduceEqDiff,g5]
      ·have U0:dv x.node s.nodes≠none:=fun h=>c4 ((qd _ _ _).2 h);have hb:ej s x=0:=by unfold ej;rw[aw (by simp[c1]),aw (by simp[rH,U0])]
       simp only[rL',aa,simprocAttr,g1,b0,g4,g5,gI,hlt,aK,n0,ki.call,aJ,k1.call,k2.call,k3.call,c2,c3,c4,wa,hw];refine CH (vO.trans hb) _ _ _ (by omega) ?_ ?_ ?_ ?_ ?_
       all_goals try simp only[aj,Nat.reduceEqDiff,g1,n0,b0]
  ·have vO:fL x.id last ((ej s) x)=vP x.id last:=by unfold fL;rw[aW dT]
   simp only[rL',aa,simprocAttr,g1,b0,g4,g5,gI,hlt,aK,n0,ki.call,aJ,k1.call,k2.call,k3.call,dT];refine fin _ vO dT _ _ _ ?_ ?_
   all_goals try simp only[aj,Nat.reduceEqDiff,g5]
end
end
section
section
variable{T:cL}
set_option maxRecDepth 100000 in
set_option maxHeartbeats 4000000 in
theorem BU(S:zJ T)(s:bc):ba T 151 [aD s] (jO (gq s)):=by
 refine gives S.Re rfl ?_;by_cases hz:kJ s=true
 ·have Bx:=hz;simp only[kJ,bq,bO]at Bx;obtain⟨z1,z2,z3,z4⟩:=Bx;have y1:¬(s.nodes.length:Int)=0:=by omega
  have y2:¬(8:Int)<(s.nodes.length:Int):=by omega
  have y3:¬(8:Int)<(s.aU.length:Int):=by omega
  have y4:¬(12:Int)<(s.pods.length:Int):=by omega
  rw[gq,aW hz];have R:∀(o:Option (Int×Int)) (c a:Int),o=some (c,a)->∀fr hp nx,look fr 2=.pv (.int .i64 c)->look fr 3=.pv (.int .i64 a)->kT [.t 2,.t 3] (jO o) .ret ⟨fr,hp,nx⟩:=by
   rintro o c a rfl fr hp nx g2 g3
   simp only[ae,ag,aa,simprocAttr,-Int.reduceAdd,List.drop,List.take,g2,g3,jO]
  simp only[f151,ae,ag,aa,simprocAttr,-Int.reduceAdd,List.drop,List.take,aD,y1,y2,y3,y4];cases h1:fU Node.id da 0 0 s.nodes with
  |some q =>
   rw[jN,jN];refine LY S s (by omega) (by omega) (by omega) 0 (TN _) (by omega) _ (some q) (fun h=>by simp at h) (fun c a h fr hp nx g2 g3=>?_) s.nodes 0 0 rfl (aN _) (by omega) h1 _ _ _ (ax _) rfl rfl rfl rfl rfl;exact R _ c a h _ _ _ g2 g3
  |none =>
   rw[mD];refine LY S s (by omega) (by omega) (by omega) 0 (TN _) (by omega) _ none (fun _ fr hp nx gR g1 g5 b0=>?_) (fun c a h=>by simp at h) s.nodes 0 0 rfl (aN _) (by omega) h1 _ _ _ (ax _) rfl rfl rfl rfl rfl;simp only[ae,ag,aa,simprocAttr,-Int.reduceAdd,List.drop,List.take,g1,g5,b0];have e0:(s.nodes.length:Int)+((0:Nat):Int)=s.nodes.length:=by omega
   have e1:(0:Int)+(s.nodes.length:Int)=s.nodes.length:=by omega
   cases h2:fU fD.id cY 0 s.nodes.length s.aU with
   |some q =>
    rw[jN];refine LZ S s (by omega) (by omega) (by omega) s.nodes.length (by omega) (by omega) _ (some q) (fun h=>by simp at h) (fun c a h fr hp nx g2 g3=>?_) s.aU 0 0 rfl (aN _) (by omega) (by rw[e0,h2]) _ _ _ gR ?_ b0 ?_ ?_ ?_
    ·exact R _ c a h _ _ _ g2 g3
    all_goals try simp only[aj,Nat.reduceEqDiff,g1,g5,e0,e1]
    rfl
   |none =>
    rw[mD];refine LZ S s (by omega) (by omega) (by omega) s.nodes.length (by omega) (by omega) _ none (fun _ fr hp nx gR g1 g5 b0=>?_) (fun c a h=>by simp at h) s.aU 0 0 rfl (aN _) (by omega) (by rw[e0,h2]) _ _ _ gR ?_ b0 ?_ ?_ ?_
    ·simp only[ae,ag,aa,simprocAttr,-Int.reduceAdd,List.drop,List.take,g1,g5,b0];have e2:(s.nodes.length:Int)+s.aU.length+((0:Nat):Int)=(s.nodes.length:Int)+s.aU.length:=by omega
     cases h3:fU dx.id (ej s) 0 ((s.nodes.length:Int)+s.aU.length) s.pods with
     |some q =>
      refine M0 S s (by omega) (by omega) (by omega) (s.nodes.length+s.aU.length) (by omega) (by omega) _ (some q) (fun h=>by simp at h) (fun c a h fr hp nx g2 g3=>?_) s.pods 0 0 rfl (aN _) (by omega) (by rw[e2,h3]) _ _ _ gR ?_ b0 ?_ ?_ ?_
      ·exact R _ c a h _ _ _ g2 g3
      all_goals try simp only[aj,Nat.reduceEqDiff,g1,g5,e2]
      rfl
     |none =>
      refine M0 S s (by omega) (by omega) (by omega) (s.nodes.length+s.aU.length) (by omega) (by omega) _ none (fun _ fr hp nx gR g1 g5 b0=>?_) (fun c a h=>by simp at h) s.pods 0 0 rfl (aN _) (by omega) (by rw[e2,h3]) _ _ _ gR ?_ b0 ?_ ?_ ?_
      ·simp only[ae,ag,aa,simprocAttr,-Int.reduceAdd,List.drop,List.take,jO]
      all_goals try simp only[aj,Nat.reduceEqDiff,g1,g5,e2]
      rfl
    all_goals try simp only[aj,Nat.reduceEqDiff,g1,g5,e0,e1]
    rfl
 ·have hc:jO (gq s)=.tuple [.int .i64 3,.int .i64 (-1)]:=by rw[gq,aw hz];rfl
  rw[hc];have Bx:=hz;simp only[kJ,bq,bO,not_and]at Bx;by_cases c1:(s.nodes.length:Int)=0
  ·have d1:=bI c1;simp only[f151,ae,ag,aa,simprocAttr,-Int.reduceAdd,List.drop,List.take,aD,d1]
  ·by_cases c2:(8:Int)<(s.nodes.length:Int)
   ·simp only[f151,ae,ag,aa,simprocAttr,-Int.reduceAdd,List.drop,List.take,aD,c1,c2]
   ·by_cases c3:(8:Int)<(s.aU.length:Int)
    ·simp only[f151,ae,ag,aa,simprocAttr,-Int.reduceAdd,List.drop,List.take,aD,c1,c2,c3]
    ·have c4:(12:Int)<(s.pods.length:Int):=by have:=Bx (by omega) (by omega) (by omega);omega
     simp only[f151,ae,ag,aa,simprocAttr,-Int.reduceAdd,List.drop,List.take,aD,c1,c2,c3,c4]
theorem C6(Hf:Std T 156 f156)(s:bc)(x:Spec)(hp:s.pods.length<=2^30)(hx:x.aZ.length<=2^29)(Q:Exit->St->Prop)(o:Option (Int×Int))
    (bS:o=none->∀fr hp nx,Q (.exit 0) ⟨fr,hp,nx⟩)
    (dI:∀c a,o=some (c,a)->∀fr hp nx,look fr 4=.pv (.int .i64 c)->look fr 5=.pv (.int .i64 a)->Q .ret ⟨fr,hp,nx⟩) :
    ∀(rest:List Want) (i:Nat) (prev:Option Want),x.aZ.drop i=rest->i<=x.aZ.length->((i=0/\prev=none)\/∃j v,i=j+1/\prev=some v/\x.aZ[j]? =some v)->eR s.pods prev i rest=o->∀(fr:List (Nat×AV)) (hp:Hl) (nx:Nat),2<=nx->look fr 2=.ptr 0 0 0->look fr 3=.ptr 1 0 0 ->
     ah hp 0=.var [.pv (.slice (s.nodes.map bB)),.pv (.slice (s.aU.map bN)),.pv (.slice (s.pods.map aJ))]->ah hp 1=.var [.pv (.slice (x.aZ.map cg)),.pv (.int .i64 x.pre),.pv (.int .i64 x.eW)] ->
     look fr 8=.pv (.int .i64 i)->Wp T false (.loop nj) ⟨fr,hp,nx⟩ Q:=by
 intro rest;induction rest with
 |nil =>
  intro i prev hd hi DM ho fr hp nx gR g2 g3 b0 b1 h8;have hlen:=drop_nil hd hi;rw[ay,aY nj.eq_1];simp only[ae,ag,aa,simprocAttr,-Int.reduceAdd,List.drop,List.take,g3,b1,h8,hlen,aR];exact bS ho.symm _ _ _
 |cons w r ih =>
  intro i prev hd hi DM ho fr hp nx gR g2 g3 b0 b1 h8;obtain⟨aK,hlt,hw,di,cS,Bu⟩:=drop_cons hd (by omega);have n0:¬nx=0:=by omega
  have n1:¬nx=1:=by omega
  have m0:¬nx+1=0:=by omega
  have m1:¬nx+1=1:=by omega
  have k:=KO Hf s w.eU (by assumption);simp only[aD]at k;simp only[eR]at ho;have fin:∀c,eL s.pods prev w=c->c≠0->∀fr hp nx,look fr 4=.pv (.int .i64 c)->look fr 5=.pv (.int .i64 i)->Q .ret ⟨fr,hp,nx⟩:=by
   intro c h1 h2;refine dI c _ ?_;rw[<-ho,h1,aW h2]
  have CH:eL s.pods prev w=0->∀fE hp' cE,2<=cE->look fE 2=look fr 2->look fE 3=look fr 3->ah hp' 0=ah hp 0->ah hp' 1=ah hp 1->look fE 8=.pv (.int .i64 ((i+1:Nat):Int))->Wp T false (.loop nj) ⟨fE,hp',cE⟩ Q:=by
   intro h1 fE hp' cE q1 q2 q3 q4 q5 q6;refine ih (i+1) (some w) di cS (.inr ⟨i,w,rfl,rfl,aK⟩) ?_ fE hp' cE q1 (q2.trans g2) (q3.trans g3) (q4.trans b0) (q5.trans b1) q6;rw[<-ho,h1,aw (by simp)];rfl
  have rest:eL s.pods prev w=hY s.pods w->(¬∃v,prev=some v/\(w.eU=v.eU\/w.eU<v.eU))->Wp T false (.loop nj) ⟨fr,hp,nx⟩ Q:=by
   intro hb qR;have start:∀(K:Prop),(∀(hj:i=0/\prev=none),K)->(∀j v,i=j+1->prev=some v->x.aZ[j]? =some v->¬w.eU=v.eU->¬w.eU<v.eU->K)->K:=by
    intro K h1 h2;rcases DM with h|⟨j,v,e1,e2,e3⟩
    ·exact h1 h
    ·exact h2 j v e1 e2 e3 (fun h=>qR ⟨v,e2,.inl h⟩) (fun h=>qR ⟨v,e2,.inr h⟩)
   refine start _ (fun hj=>?_) (fun j v e1 e2 e3 e4 e5=>?_)
   ·obtain⟨rfl,_⟩:=hj;have z0:((0:Nat):Int)=0:=rfl;rw[z0]at h8 hw hlt;rw[ay,aY nj.eq_1];simp only[ae,ag,aa,simprocAttr,-Int.reduceAdd,List.drop,List.take,g2,g3,b0,b1,h8,hlt,aK,cg,n0,n1];refine(cz rfl).2 ?_;simp only[ae,ag,aa,simprocAttr,-Int.reduceAdd,List.drop,List.take,g2,g3,b0,b1,h8,hlt,aK,cg,n0,n1];refine(cz rfl).2 ?_;simp only[ae,ag,aa,simprocAttr,-Int.reduceAdd,List.drop,List.take,g2,g3,b0,b1,h8,hlt,aK,cg,n0,n1,k.call];unfold hY at hb;by_cases q1:f6 w.eU s.pods=none
    ·rw[aW q1]at hb;rcases ca w.eU s.pods 0 with⟨p1,p2⟩|⟨j,p,p1,p2,p3,p4⟩
     ·simp only[ae,ag,aa,simprocAttr,-Int.reduceAdd,List.drop,List.take,p2,h8,Int.reduceNeg,Int.reduceLT];refine fin _ hb (by decide) _ _ _ ?_ ?_
      all_goals try simp only[aj,Nat.reduceEqDiff,z0]
     ·rw[q1]at p2;simp at p2
    ·rw[aw q1]at hb;rcases ca w.eU s.pods 0 with⟨p1,p2⟩|⟨j,p,p1,p2,p3,p4⟩
     ·exact absurd p1 q1
     ·have hj:¬((0+j:Nat):Int)<0:=by omega
      have Cb:¬(j:Int)<0:=by omega
      cases q2:w.stay
      ·rw[q2]at hb;have hv:=pI w.jV cG;by_cases q3:w.jV=cG
       ·rw[aw (by simp[q3])]at hb;rw[bI q3]at hv;simp only[cG]at hv;simp only[ae,ag,aa,simprocAttr,-Int.reduceAdd,List.drop,List.take,p3,hj,Cb,hv,h8,hw,n0,n1,q2];refine CH hb _ _ _ (by omega) ?_ ?_ ?_ ?_ ?_
        all_goals try simp only[aj,Nat.reduceEqDiff,g2,g3,n0,n1,b0,b1]
        all_goals try rfl
       ·rw[aW ⟨rfl,q3⟩]at hb;rw[U2 q3]at hv;simp only[cG]at hv;simp only[ae,ag,aa,simprocAttr,-Int.reduceAdd,List.drop,List.take,p3,hj,Cb,hv,h8,n0,n1,q2];refine fin _ hb (by decide) _ _ _ ?_ ?_
        all_goals try simp only[aj,Nat.reduceEqDiff,z0]
      ·rw[q2,aw (by simp)]at hb;simp only[ae,ag,aa,simprocAttr,-Int.reduceAdd,List.drop,List.take,p3,hj,Cb,h8,hw,n0,n1,q2];refine CH hb _ _ _ (by omega) ?_ ?_ ?_ ?_ ?_
       all_goals try simp only[aj,Nat.reduceEqDiff,g2,g3,n0,n1,b0,b1]
       all_goals try rfl
   ·subst e1;have w1:IntKind.i64.wrap (((j+1:Nat):Int)-1)=(j:Int):=by rw[f9] <;>omega
    have p0:(0:Int)<((j+1:Nat):Int):=by omega
    rw[ay,aY nj.eq_1];simp only[ae,ag,aa,simprocAttr,-Int.reduceAdd,List.drop,List.take,g2,g3,b0,b1,h8,hlt,aK,cg,n0,n1];refine(cz rfl).2 ?_;simp only[ae,ag,aa,simprocAttr,-Int.reduceAdd,List.drop,List.take,g2,g3,b0,b1,h8,hlt,aK,cg,n0,n1,e3,w1,p0,e4];refine(cz rfl).2 ?_;simp only[ae,ag,aa,simprocAttr,-Int.reduceAdd,List.drop,List.take,g2,g3,b0,b1,h8,hlt,aK,cg,n0,n1,k.call,e3,w1,p0,e5];unfold hY at hb;by_cases q1:f6 w.eU s.pods=none
    ·rw[aW q1]at hb;rcases ca w.eU s.pods 0 with⟨p1,p2⟩|⟨j,p,p1,p2,p3,p4⟩
     ·simp only[ae,ag,aa,simprocAttr,-Int.reduceAdd,List.drop,List.take,p2,h8,Int.reduceNeg,Int.reduceLT];refine fin _ hb (by decide) _ _ _ ?_ ?_
      all_goals try simp only[aj,Nat.reduceEqDiff,]
     ·rw[q1]at p2;simp at p2
    ·rw[aw q1]at hb;rcases ca w.eU s.pods 0 with⟨p1,p2⟩|⟨j',p,p1,p2,p3,p4⟩
     ·exact absurd p1 q1
     ·have hj:¬((0+j':Nat):Int)<0:=by omega
      have Cb:¬(j':Int)<0:=by omega
      cases q2:w.stay
      ·rw[q2]at hb;have hv:=pI w.jV cG;by_cases q3:w.jV=cG
       ·rw[aw (by simp[q3])]at hb;rw[bI q3]at hv;simp only[cG]at hv;simp only[ae,ag,aa,simprocAttr,-Int.reduceAdd,List.drop,List.take,p3,hj,Cb,hv,h8,hw,n0,n1,q2];refine CH hb _ _ _ (by omega) ?_ ?_ ?_ ?_ ?_
        all_goals try simp only[aj,Nat.reduceEqDiff,g2,g3,n0,n1,b0,b1]
        all_goals try rfl
       ·rw[aW ⟨rfl,q3⟩]at hb;rw[U2 q3]at hv;simp only[cG]at hv;simp only[ae,ag,aa,simprocAttr,-Int.reduceAdd,List.drop,List.take,p3,hj,Cb,hv,h8,n0,n1,q2];refine fin _ hb (by decide) _ _ _ ?_ ?_
        all_goals try simp only[aj,Nat.reduceEqDiff,]
      ·rw[q2,aw (by simp)]at hb;simp only[ae,ag,aa,simprocAttr,-Int.reduceAdd,List.drop,List.take,p3,hj,Cb,h8,hw,n0,n1,q2];refine CH hb _ _ _ (by omega) ?_ ?_ ?_ ?_ ?_
       all_goals try simp only[aj,Nat.reduceEqDiff,g2,g3,n0,n1,b0,b1]
       all_goals try rfl
  rcases DM with⟨rfl,rfl⟩|⟨j,v,rfl,rfl,hv⟩
  ·exact rest rfl (by rintro⟨v,h,_⟩;simp at h)
  ·have w1:IntKind.i64.wrap (((j+1:Nat):Int)-1)=(j:Int):=by rw[f9] <;>omega
   have p0:(0:Int)<((j+1:Nat):Int):=by omega
   by_cases h5:w.eU=v.eU
   ·have d5:=bI h5;have hb:eL s.pods (some v) w=5:=by simp only[eL];rw[aW h5]
    rw[ay,aY nj.eq_1];simp only[ae,ag,aa,simprocAttr,-Int.reduceAdd,List.drop,List.take,g2,g3,b0,b1,h8,hlt,aK,cg,n0,n1];refine(cz rfl).2 ?_;simp only[ae,ag,aa,simprocAttr,-Int.reduceAdd,List.drop,List.take,g2,g3,b0,b1,h8,hlt,aK,cg,n0,n1,hv,w1,p0,d5];refine fin _ hb (by decide) _ _ _ ?_ ?_
    all_goals try simp only[aj,Nat.reduceEqDiff,]
   ·by_cases h6:w.eU<v.eU
    ·have hb:eL s.pods (some v) w=1:=by simp only[eL];rw[aw h5,aW h6]
     rw[ay,aY nj.eq_1];simp only[ae,ag,aa,simprocAttr,-Int.reduceAdd,List.drop,List.take,g2,g3,b0,b1,h8,hlt,aK,cg,n0,n1];refine(cz rfl).2 ?_;simp only[ae,ag,aa,simprocAttr,-Int.reduceAdd,List.drop,List.take,g2,g3,b0,b1,h8,hlt,aK,cg,n0,n1,hv,w1,p0,h5];refine(cz rfl).2 ?_;simp only[ae,ag,aa,simprocAttr,-Int.reduceAdd,List.drop,List.take,g2,g3,b0,b1,h8,hlt,aK,cg,n0,n1,hv,w1,p0,h6];refine fin _ hb (by decide) _ _ _ ?_ ?_
     all_goals try simp only[aj,Nat.reduceEqDiff,]
    ·refine rest (by simp only[eL];rw[aw h5,aw h6]) ?_
     rintro⟨v',h,h'⟩
     simp only[ai]at h;subst h;rcases h' with h'|h'
     ·exact h5 h'
     ·exact h6 h'
theorem EM(S:zJ T)(Rf:Std T 152 f152)(Hf:Std T 156 f156)(s:bc)(x:Spec)(hx:x.aZ.length<=2^29):ba T 152 [aD s,bd x] (jO (jk s x)):=by
 refine gives Rf rfl ?_;have k:=BU S s;simp only[aD]at k;have kr:=wI s;unfold jk;cases hc:gq s with
 |some e =>
  obtain⟨c,a⟩:=e;have:=kr c a hc;have Lw:¬c=0:=by omega
  rw[hc]at k;simp only[jO]at k⊢;simp only[f152,ae,ag,aa,simprocAttr,-Int.reduceAdd,List.drop,List.take,aD,bd,k.call,Lw]
 |none =>
  have hs:s.pods.length<=2^30:=by
   unfold gq at hc;split at hc
   ·rename_i hz;simp only[kJ,bq,bO]at hz;omega
   ·simp at hc
  rw[hc]at k;simp only[jO]at k;simp only;by_cases c1:x.pre<0
  ·rw[aw (by omega)];simp only[f152,ae,ag,aa,simprocAttr,-Int.reduceAdd,List.drop,List.take,aD,bd,k.call,c1,jO]
  ·by_cases c2:40<x.pre
   ·rw[aw (by omega)];simp only[f152,ae,ag,aa,simprocAttr,-Int.reduceAdd,List.drop,List.take,aD,bd,k.call,c1,c2,jO]
   ·by_cases c3:x.eW<0
    ·rw[aw (by omega)];simp only[f152,ae,ag,aa,simprocAttr,-Int.reduceAdd,List.drop,List.take,aD,bd,k.call,c1,c2,c3,jO]
    ·by_cases c4:40<x.eW
     ·rw[aw (by omega)];simp only[f152,ae,ag,aa,simprocAttr,-Int.reduceAdd,List.drop,List.take,aD,bd,k.call,c1,c2,c3,c4,jO]
     ·rw[aW (by omega)];simp only[f152,ae,ag,aa,simprocAttr,-Int.reduceAdd,List.drop,List.take,aD,bd,k.call,c1,c2,c3,c4];refine C6 Hf s x hs hx _ (eR s.pods none 0 x.aZ) (fun ho fr hp nx=>?_) (fun c a ho fr hp nx g4 g5=>?_) x.aZ 0 none rfl (aN _) (.inl ⟨rfl,rfl⟩) rfl _ _ _ (ax _) rfl rfl rfl rfl rfl
      ·simp only[ae,ag,aa,simprocAttr,-Int.reduceAdd,List.drop,List.take,ho,jO]
      ·simp only[ae,ag,aa,simprocAttr,-Int.reduceAdd,List.drop,List.take,ho,g4,g5,jO]
theorem IC(Hc:Std T 105 f105)(yQ:Std T 102 f102)(JV:xF T 103 LL)(o:Option (Int×Int))(h:Gb o):ba T 105 [jQ o,.int .i64 (vW o),.int .i64 (vX o)] (.bool true):=by
 cases o with
 |none=>exact E8 Hc yQ JV none (fun c i h=>by simp at h)
 |some q =>
  obtain⟨c,a⟩:=q;obtain⟨h1,h2,h3⟩:=h c a rfl;by_cases ha:a<0
  ·have e:a= -1:=by omega
   subst e;refine gives Hc rfl ?_;have k:=EE yQ c h1 h2;simp only[cf]at k;simp only[f105,ae,ag,aa,simprocAttr,-Int.reduceAdd,List.drop,List.take,jQ,vW,vX,cf,Int.reduceNeg,Int.reduceLT,k.call]
  ·have:=E8 Hc yQ JV (some (c,a)) (fun c' i h=>by simp at h;omega);simpa only[jQ,aw ha,jR]using this
end
end

section
/-! ### Plain:Vp SC where all may be -/
section
variable{T:cL}
end
end
section
def kY(z:Int):List Int->Nat
 |[]=>0
 |y::r=>if y<z then kY z r+1 else 0
def nX(z:Int)(l:List Int):List Int:=if l[kY z l]? =some z then l else l.take (kY z l)++z::l.drop (kY z l)
theorem xP(z:Int):∀l,kY z l<=l.length
 |[]=>ax _
 |y::r=>by
  have:=xP z r;simp only[kY,aC];split <;>omega
theorem GA(z:Int):∀(l:List Int) (j:Nat),j<kY z l->∃y,l[j]? =some y/\y<z
 |[],j,h=>by simp[kY]at h
 |y::r,j,h=>by
  simp only[kY]at h;split at h
  ·rename_i hy;cases j with
   |zero=>exact⟨y,rfl,hy⟩
   |succ j =>
    obtain⟨x,h1,h2⟩:=GA z r j (by omega);exact⟨x,by simpa using h1,h2⟩
  ·omega
theorem BJ(z:Int):∀(l:List Int),kY z l=l.length\/∃y,l[kY z l]? =some y/\z<=y
 |[]=>.inl rfl
 |y::r=>by
  simp only[kY];split
  ·rcases BJ z r with h|⟨x,h1,h2⟩
   ·left;simp[h]
   ·right;exact⟨x,by simpa using h1,h2⟩
  ·rename_i hy;right;exact⟨y,rfl,by omega⟩
theorem wY(z y:Int)(r:List Int):nX z (y::r)=if y<z then y::nX z r else if y=z then y::r else z::y::r:=by
 unfold nX;simp only[kY];by_cases h:y<z
 ·simp only[h,bA,eB,kj,List.drop_succ_cons];split <;>simp
 ·simp only[h,aI,gM,ai,List.take_zero,gH,aE]
theorem uR(z x:Int):∀l,x∈nX z l↔x=z\/x∈l
 |[]=>by simp[nX,kY]
 |y::r=>by
  rw[wY];split
  ·rw[aS,uR z x r,aS]
   grind
  ·split
   ·rename_i h;subst h;simp
   ·simp
theorem DO(z:Int):∀l:List Int,l.Pairwise (fun a b=>a<b)->(nX z l).Pairwise (fun a b=>a<b)
 |[],_=>by simp[nX,kY]
 |y::r,h=>by
  have h':=gO.1 h;rw[wY];split
  ·rename_i hy;refine gO.2 ⟨fun x hx=>?_,DO z r h'.2⟩;rcases(uR z x r).1 hx with rfl|hx
   ·exact hy
   ·exact h'.1 x hx
  ·split
   ·exact h
   ·refine gO.2 ⟨fun x hx=>?_,h⟩;rcases aS.1 hx with rfl|hx
    ·omega
    ·have:=h'.1 x hx;omega
def jA(out:List Int):List Node->List Int
 |[]=>out
 |n::r=>jA (nX n.bX out) r
theorem xz:∀(l:List Node) (out:List Int),out.Pairwise (fun a b=>a<b)->(jA out l).Pairwise (fun a b=>a<b)/\∀x,x∈jA out l↔x∈out\/x∈l.map Node.bX
 |[],out,h=>⟨h,fun x=>by simp[jA]⟩
 |n::r,out,h=>by
  obtain⟨h1,h2⟩:=xz r (nX n.bX out) (DO _ _ h);refine⟨h1,fun x=>?_⟩;rw[jA,h2,uR,aX,aS]
  grind
theorem G0(s:bc):jA [] s.nodes=eb s:=by
 obtain⟨h1,h2⟩:=xz s.nodes [] List.Pairwise.nil;refine xk h1 (FI _) fun x=>?_;rw[h2,show eb s=eo (s.nodes.map Node.bX)from rfl,jx];simp
theorem AK(z:Int)(l:List Int):(nX z l).length<=l.length+1:=by
 have:=xP z l;unfold nX;split
 ·omega
 ·simp;omega
section
variable{T:cL}
theorem IU(s:bc)(hl:s.nodes.length<=2^29)(n:Node)(i:Nat)(aK:s.nodes[i]? =some n)(out:List Int)(S0:out.length<=2^29)(hp:Hl)(nx:Nat)(v:AV)(hO:fk v hp 1 (out.map cF) 1 nx)
    (b0:ah hp 0=.var [.pv (.slice (s.nodes.map bB)),.pv (.slice (s.aU.map bN)),.pv (.slice (s.pods.map aJ))]) (Q:Exit->St->Prop)
    (bS:∀fr,look fr 1=.ptr 0 0 0->look fr 3=v->look fr 4=.pv (.int .i64 i)->look fr 5=.pv (.int .i64 (kY n.bX out:Nat))->Q (.exit 2) ⟨fr,hp,nx⟩) :
    ∀(k j:Nat),kY n.bX out=j+k->∀(fr:List (Nat×AV)),look fr 1=.ptr 0 0 0->look fr 3=v->look fr 4=.pv (.int .i64 i)->look fr 5=.pv (.int .i64 (j:Int))->Wp T false (.loop rP) ⟨fr,hp,nx⟩ Q:=by
 intro k;have hlt:i<s.nodes.length:=(aA.1 aK).1;have h0:(0:Int)<=(i:Int):=by omega
 have hle:=xP n.bX out;induction k with
 |zero =>
  intro j hk fr g1 g3 g4 g5;rw[fa]at hk;rcases hO with⟨he,rfl⟩|⟨id,rfl,i1,i2,i3⟩
  ·have ho:out=[]:=by simpa using he
   subst ho;have hj:¬(j:Int)<((0:Nat):Int):=by omega
   have z0:((0:Nat):Int)=0:=rfl;rw[z0]at hj;rw[ay,aY rP.eq_1];refine mh.2 (mh.2 ((cz rfl).2 ?_));simp only[rL',aa,simprocAttr,g1,g3,g4,g5,b0,hj,z0];refine bS _ ?_ ?_ ?_ ?_
   all_goals try simp only[aj,Nat.reduceEqDiff,g1,g3,g4,g5,hk]
  ·rcases BJ n.bX out with h|⟨y,h1,h2⟩
   ·have hj:¬(j:Int)<(out.length:Int):=by omega
    rw[ay,aY rP.eq_1];refine mh.2 (mh.2 ((cz rfl).2 ?_));simp only[rL',aa,simprocAttr,g1,g3,g4,g5,b0,i3,hj];refine bS _ ?_ ?_ ?_ ?_
    all_goals try simp only[aj,Nat.reduceEqDiff,g1,g3,g4,g5,hk]
   ·have pj:j<out.length:=by rw[hk]at h1;exact(aA.1 h1).1
    have hj:(j:Int)<(out.length:Int):=by omega
    rw[hk]at h1;have hy:¬y<n.bX:=by omega
    rw[ay,aY rP.eq_1];refine mh.2 (mh.2 ((cz rfl).2 ?_));simp only[rL',aa,simprocAttr,g1,g3,g4,g5,b0,i3,hj,pj,h1,cF,aK,bB,hy];refine bS _ ?_ ?_ ?_ ?_
    all_goals try simp only[aj,Nat.reduceEqDiff,g1,g3,g4,g5,hk]
 |succ k ih =>
  intro j hk fr g1 g3 g4 g5;obtain⟨y,h1,h2⟩:=GA n.bX out j (by omega);have pj:j<out.length:=(aA.1 h1).1;have hj:(j:Int)<(out.length:Int):=by omega
  have hw:IntKind.i64.wrap ((j:Int)+1)=((j+1:Nat):Int):=by rw[f9] <;>omega
  have Ny:=hO;rcases hO with⟨he,rfl⟩|⟨id,rfl,i1,i2,i3⟩
  ·have ho:out=[]:=by simpa using he
   subst ho;simp at pj
  ·rw[ay,aY rP.eq_1];refine mh.2 (mh.2 ((cz rfl).2 ?_));simp only[rL',aa,simprocAttr,g1,g3,g4,g5,b0,i3,hj,pj,h1,cF,aK,bB,h2,hw];refine ih (j+1) (by omega) _ ?_ ?_ ?_ ?_
   all_goals try simp only[aj,Nat.reduceEqDiff,g1,g3,g4]
theorem Ld(s:bc)(hl:s.nodes.length<=2^28)(Q:Exit->St->Prop)
    (bS:∀fr hp nx,fk (look fr 3) hp 1 ((jA [] s.nodes).map cF) 1 nx->Q (.exit 0) ⟨fr,hp,nx⟩) :
    ∀(rest:List Node) (i:Nat) (out:List Int),s.nodes.drop i=rest->i<=s.nodes.length->out.length<=i->jA out rest=jA [] s.nodes->∀(fr:List (Nat×AV)) (hp:Hl) (nx:Nat),1<=nx->look fr 1=.ptr 0 0 0->look fr 4=.pv (.int .i64 i) ->
     ah hp 0=.var [.pv (.slice (s.nodes.map bB)),.pv (.slice (s.aU.map bN)),.pv (.slice (s.pods.map aJ))]->fk (look fr 3) hp 1 (out.map cF) 1 nx->Wp T false (.loop rQ) ⟨fr,hp,nx⟩ Q:=by
 intro rest;induction rest with
 |nil =>
  intro i out hd hi S0 ho fr hp nx gR g1 g4 b0 h3;have hlen:=drop_nil hd hi;simp only[jA]at ho;rw[ay,aY rQ.eq_1];simp only[rL',aa,simprocAttr,g1,b0,g4,hlen,aR];exact bS _ _ _ (by simp only[aj,Nat.reduceEqDiff];rw[<-ho];exact h3)
 |cons n r ih =>
  intro i out hd hi S0 ho fr hp nx gR g1 g4 b0 h3;obtain⟨aK,hlt,hw,di,cS,hb⟩:=drop_cons hd (by omega);have hle:=xP n.bX out;generalize hv:look fr 3=v at h3;rw[ay,aY rQ.eq_1];simp only[rL',aa,simprocAttr,g1,b0,g4,hlt];refine IU s (by omega) n i aK out (by omega) hp nx v h3 b0 _ (fun fE q1 q3 q4 q5=>?_) (kY n.bX out) 0 (aQ _).symm _ ?_ ?_ ?_ ?_
  ·simp only[rL',aa,simprocAttr];refine(cz rfl).2 ?_;have go:∀I1,jA I1 r=jA [] s.nodes->I1.length<=i+1->∀fE hp' cE,1<=cE->look fE 1=.ptr 0 0 0->ah hp' 0=ah hp 0->look fE 4=.pv (.int .i64 ((i+1:Nat):Int))->fk (look fE 3) hp' 1 (I1.map cF) 1 cE->Wp T false (.loop rQ) ⟨fE,hp',cE⟩ Q:=by
    intro I1 h1 h2 fE hp' cE z1 z2 z3 z4 z5;exact ih (i+1) I1 di cS h2 h1 _ _ _ z1 z2 z4 (z3.trans b0) z5
   have Vt:(out[kY n.bX out]? ≠some n.bX)->∀(es:List (List PV)),dW (ah hp) v=some es->True:=fun _ _ _=>trivial;simp only[jA]at ho;rcases h3 with⟨he,rfl⟩|⟨id,rfl,i1,i2,i3⟩
   ·have UI:out=[]:=by simpa using he
    subst UI;have z0:((0:Nat):Int)=0:=rfl;have ez:kY n.bX []=0:=rfl;rw[ez,z0]at q5;have e1:¬nx=0:=by omega
    have e2:¬nx+1=0:=by omega
    have e3:¬nx+1+1=0:=by omega
    have p1:(1:Nat)<=2^30:=by decide
    have p0:(0:Nat)<=2^30:=by decide
    have ei:nX n.bX []=[n.bX]:=rfl;simp only[rL',aa,simprocAttr,q1,q3,q4,q5,b0,z0,aR,nf,nZ,fq,fe,ia,bt,dW,chunk,cq,bL,bW,fT,eN,aK,bB,e1,e2,e3,hw,p0,p1,aQ];refine go [n.bX] (by rw[<-ei];exact ho) (by simp) _ _ _ (by omega) ?_ ?_ ?_ ?_
    all_goals try simp only[aj,Nat.reduceEqDiff,q1,e1,e2,e3]
    refine .inr ⟨_,rfl,by omega,by omega,?_⟩;have e5:¬nx=nx+1:=by omega
    simp only[aj,Nat.reduceEqDiff,aX,az,cF,e5]
   ·have e1:¬nx=0:=by omega
    have e2:¬nx+1=0:=by omega
    have e3:¬nx+1+1=0:=by omega
    have e4:¬nx+1+1+1=0:=by omega
    have d1:¬nx=id:=by omega
    have d2:¬nx+1=id:=by omega
    have d3:¬nx+1+1=id:=by omega
    have d4:¬nx+1+1+1=id:=by omega
    by_cases heq:out[kY n.bX out]? =some n.bX
    ·have pj:kY n.bX out<out.length:=(aA.1 heq).1;have hj:((kY n.bX out:Nat):Int)<(out.length:Int):=by omega
     have ei:nX n.bX out=out:=by unfold nX;rw[aW heq]
     have dz:decide (n.bX=n.bX)=true:=bI rfl;simp only[rL',aa,simprocAttr,q1,q3,q4,q5,b0,i3,hj,pj,heq,cF,aK,bB,dz,hw];refine go out (by rw[ei]at ho;exact ho) (by omega) _ _ _ gR ?_ rfl ?_ ?_
     all_goals try simp only[aj,Nat.reduceEqDiff,q1,q3]
     exact .inr ⟨id,rfl,i1,i2,i3⟩
    ·have ei:nX n.bX out=out.take (kY n.bX out)++n.bX::out.drop (kY n.bX out):=by unfold nX;rw[aw heq]
     have a1:(out.map cF).take (kY n.bX out)=(out.take (kY n.bX out)).map cF:=(List.map_take ..).symm;have a2:((out.map cF).drop (kY n.bX out)).take (out.length-kY n.bX out)=(out.drop (kY n.bX out)).map cF:=by
      rw[qo (by simp),<-List.map_drop]
     have l1:∀l:List Int,cq 1 (l.map cF)=true:=fun l=>by simp[cq,cF]
     have l2:cq 1 [[PV.int .i64 n.bX]]=true:=rfl;have t1:(out.take (kY n.bX out)).length=kY n.bX out:=by rw[hZ];omega
     have t2:(out.drop (kY n.bX out)).length=out.length-kY n.bX out:=List.length_drop ..
     have p0:kY n.bX out<=2^30:=by omega
     have p1:kY n.bX out+1<=2^30:=by omega
     have p2:kY n.bX out+1+(out.length-kY n.bX out)<=2^30:=by omega
     have p3:kY n.bX out+(out.length-kY n.bX out)<=out.length:=by omega
     have fin:∀(K:Prop),(¬((kY n.bX out:Nat):Int)<(out.length:Int)->K)->(∀y,((kY n.bX out:Nat):Int)<(out.length:Int)->kY n.bX out<out.length->out[kY n.bX out]? =some y->¬y=n.bX->K)->K:=by
      intro K h1 h2;rcases BJ n.bX out with h|⟨y,g1,g2⟩
      ·exact h1 (by omega)
      ·have pj:kY n.bX out<out.length:=(aA.1 g1).1;exact h2 y (by omega) pj g1 (fun h=>heq (by rw[g1,h]))
     have done:∀H8:List (Nat×AV),look H8 1=.ptr 0 0 0->look H8 4=.pv (.int .i64 ((i+1:Nat):Int))->look H8 3=.ms (nx+4)->∀Hw,ah Hw 0=ah hp 0->ah Hw (nx+4)=.row 1 (List.map cF (List.take (kY n.bX out) out)++[[.int .i64 n.bX]]++List.map cF (List.drop (kY n.bX out) out))->Wp T false (.loop rQ) ⟨H8,Hw,nx+5⟩ Q:=by
      intro H8 z1 z2 z3 Hw z4 z5;have z6:ah Hw (nx+4)=.row 1 ((nX n.bX out).map cF):=by
       rw[z5,ei,bj,aX,gn];rfl
      exact go (nX n.bX out) ho (by have:=AK n.bX out;omega) _ _ _ (by omega) z1 z4 z2 (by rw[z3];exact .inr ⟨_,rfl,by omega,by omega,z6⟩)
     have f1:¬nx+2+1=0:=by omega
     have f2:¬nx+4=0:=by omega
     have f3:¬nx+2=0:=by omega
     have f4:¬nx+2+1=nx+4:=by omega
     have f5:¬nx+2=nx+1:=by omega
     refine fin _ (fun hj=>?_) (fun y hj pj hy ew=>?_)
     ·simp only[rL',aa,simprocAttr,q1,q3,q4,q5,b0,i3,hj,nf,nZ,fq,fe,ia,bt,dW,chunk,fT,eN,aK,bB,e1,e2,e3,e4,d1,d2,d3,d4,hw,a1,a2,l1,l2,t1,t2,p0,p1,p2,p3,hle,aN,Nat.sub_zero,aM,cF];refine done _ ?_ ?_ ?_ _ ?_ ?_
      all_goals try simp only[aj,Nat.reduceEqDiff,q1,e1,e2,f1,f2,f3,f4]
     ·simp only[rL',aa,simprocAttr,q1,q3,q4,q5,b0,i3,hj,pj,hy,ew,nf,nZ,fq,fe,ia,bt,dW,chunk,fT,eN,aK,bB,e1,e2,e3,e4,d1,d2,d3,d4,hw,a1,a2,l1,l2,t1,t2,p0,p1,p2,p3,hle,aN,Nat.sub_zero,aM,cF];refine done _ ?_ ?_ ?_ _ ?_ ?_
      all_goals try simp only[aj,Nat.reduceEqDiff,q1,e1,e2,f1,f2,f3,f4]
  all_goals try simp only[aj,Nat.reduceEqDiff,g1,g4,hv]
  rfl
theorem G1(Mm:Std T 158 f158)(s:bc)(hl:s.nodes.length<=2^28):ba T 158 [aD s] (.slice ((eb s).map cF)):=by
 refine gives Mm rfl ?_;rw[<-G0];simp only[f158,rL',aa,simprocAttr,aD];refine Ld s hl _ (fun fr hp nx h3=>?_) s.nodes 0 [] rfl (aN _) (ax _) rfl _ _ _ (ax _) rfl rfl rfl fk.nil;simp only[rL',aa,simprocAttr,h3.snap]
def my(id:Int):Nat->List Want->Int
 |_,[]=> -1
 |i,p::r=>if p.eU=id then i else my id (i+1) r
theorem kF(id:Int):∀(l:List Want) (i:Nat),(jW id l=none/\my id i l= -1)\/∃j p,l[j]? =some p/\jW id l=some p/\my id i l=((i+j:Nat):Int)
 |[],i=>.inl ⟨rfl,rfl⟩
 |p::r,i=>by
  by_cases hp:p.eU=id
  ·exact .inr ⟨0,p,rfl,by simp[jW,hp],by simp[my,hp]⟩
  ·rcases kF id r (i+1)with⟨h1,h2⟩|⟨j,q,h1,h2,h3⟩
   ·exact .inl ⟨by simpa[jW,hp]using h1,by simp[my,hp,h2]⟩
   ·refine .inr ⟨j+1,q,by simpa using h1,by simpa[jW,hp]using h2,?_⟩;simp only[my,aw hp,h3];omega
theorem Bq(x:Spec)(id:Int)(hl:x.aZ.length<=2^30)(Q:Exit->St->Prop)(o:Int)
    (bS:o= -1->∀fr hp nx,Q (.exit 0) ⟨fr,hp,nx⟩) (dI:∀fr hp nx,look fr 4=.pv (.int .i64 o)->Q .ret ⟨fr,hp,nx⟩) :
    ∀(rest:List Want) (i:Nat),x.aZ.drop i=rest->i<=x.aZ.length->my id i rest=o->∀(fr:List (Nat×AV)) (hp:Hl) (nx:Nat),look fr 5=.pv (.int .i64 i)->look fr 1=.pv (.int .i64 id)->look fr 2=.ptr 0 0 0 ->
     ah hp 0=.var [.pv (.slice (x.aZ.map cg)),.pv (.int .i64 x.pre),.pv (.int .i64 x.eW)]->Wp T false (.loop y9) ⟨fr,hp,nx⟩ Q:=by
 intro rest;induction rest with
 |nil =>
  intro i hd hi ho fr hp nx h5 h1 h2 b0;have hlen:=drop_nil hd hi;rw[ay,aY y9.eq_1];simp only[rL',aa,simprocAttr,h5,h1,h2,b0,hlen,aR];exact bS ho.symm _ _ _
 |cons n r ih =>
  intro i hd hi ho fr hp nx h5 h1 h2 b0;obtain⟨aK,hlt,hw,di,cS,hb⟩:=drop_cons hd hl;simp only[my]at ho;rw[ay,aY y9.eq_1];by_cases hk:n.eU=id
  ·rw[aW hk]at ho;simp only[rL',aa,simprocAttr,h5,h1,h2,b0,hlt,aK,cg,hk];exact dI _ _ _ (by simp only[bG,Nat.reduceEqDiff,bA,aI,<-ho])
  ·rw[aw hk]at ho;simp only[rL',aa,simprocAttr,h5,h1,h2,b0,hlt,aK,cg,hk,hw];refine ih (i+1) di cS ho _ _ _ ?_ ?_ ?_ b0
   all_goals try simp only[aj,Nat.reduceEqDiff,h1,h2]
theorem pr(EY:Std T 157 f157)(x:Spec)(id:Int)(hl:x.aZ.length<=2^30):ba T 157 [bd x,.int .i64 id] (.int .i64 (my id 0 x.aZ)):=by
 refine gives EY rfl ?_;simp only[f157,rL',aa,simprocAttr,bd];refine Bq x id hl _ (my id 0 x.aZ) (fun ho fr hp nx=>?_) (fun fr hp nx h4=>?_) x.aZ 0 rfl (aN _) rfl _ _ _ rfl rfl rfl rfl
 ·simp only[rL',aa,simprocAttr,ho]
 ·simp only[rL',aa,simprocAttr,h4]
end
end
section
theorem x5(id:Int):∀(l:List fD) (i:Nat),(gy id l=none/\iJ id i l= -1)\/∃j p,l[j]? =some p/\gy id l=some p/\iJ id i l=((i+j:Nat):Int)
 |[],i=>.inl ⟨rfl,rfl⟩
 |p::r,i=>by
  by_cases hp:p.id=id
  ·exact .inr ⟨0,p,rfl,by simp[gy,hp],by simp[iJ,hp]⟩
  ·rcases x5 id r (i+1)with⟨h1,h2⟩|⟨j,q,h1,h2,h3⟩
   ·exact .inl ⟨by simpa[gy,hp]using h1,by simp[iJ,hp,h2]⟩
   ·refine .inr ⟨j+1,q,by simpa using h1,by simpa[gy,hp]using h2,?_⟩;simp only[iJ,aw hp,h3];omega
section
variable{T:cL}
theorem L9(w5:Std T 180 f180)(qO:Std T 154 f154)(s:bc)(hs:s.aU.length<=2^30)(a b:dx):ba T 180 [aD s,.agg (aJ a),.agg (aJ b)] (.bool (wu s.aU a b)):=by
 refine gives w5 rfl ?_;have k:=AQ qO s a.load hs;simp only[aD]at k;unfold wu;rcases x5 a.load s.aU 0 with⟨h1,h2⟩|⟨j,p,h1,h2,h3⟩
 ·rw[h2]at k;simp only[f180,rL',aa,simprocAttr,aD,aJ,k.call,h1,dV]
 ·rw[h3,aQ]at k;have hj:¬(j:Int)<0:=by omega
  have pj:j<s.aU.length:=(aA.1 h1).1;by_cases c1:a.load=b.load
  ·have d1:=bI c1;by_cases c2:a.node=0
   ·have d2:=bI c2;simp only[f180,rL',aa,simprocAttr,aD,aJ,k.call,h2,hj,d1,d2,dV,cB,decide_not]
   ·by_cases c3:a.node=b.node
    ·have d3:=bI c3;simp only[f180,rL',aa,simprocAttr,aD,aJ,k.call,h1,h2,hj,d1,c2,d3,bN,bh]
    ·simp only[f180,rL',aa,simprocAttr,aD,aJ,k.call,h2,hj,d1,c2,c3,dV,cB]
  ·simp only[f180,rL',aa,simprocAttr,aD,aJ,k.call,h2,hj,c1,dV,cB]
theorem KD(K2:Std T 175 f175)(nV:Std T 167 f167)(t:State)(a b:Int)(hl:t.pods.length<=2^29):ba T 175 [ar t,.int .i64 a,.int .i64 b] (.bool (AZ t a b)):=by
 have k1:=gX nV t a (by omega);have k2:=gX nV t b (by omega);simp only[ar]at k1 k2;refine gives K2 rfl ?_;unfold AZ;rcases ca a t.pods 0 with⟨h1,h2⟩|⟨j,p,h1,h2,h3,h4⟩
 ·rw[h2]at k1;rcases ca b t.pods 0 with⟨g1,g2⟩|⟨i,q,g1,g2,g3,g4⟩
  ·rw[g2]at k2;simp only[f175,rL',aa,simprocAttr,ar,k1.call,k2.call,h1]
  ·rw[g3,aQ]at k2;simp only[f175,rL',aa,simprocAttr,ar,k1.call,k2.call,h1]
 ·rw[h3,aQ]at k1;have hj:¬(j:Int)<0:=by omega
  rcases ca b t.pods 0 with⟨g1,g2⟩|⟨i,q,g1,g2,g3,g4⟩
  ·rw[g2]at k2;simp only[f175,rL',aa,simprocAttr,ar,k1.call,k2.call,h2,g1,hj]
  ·rw[g3,aQ]at k2;have hi:¬(i:Int)<0:=by omega
   simp only[f175,rL',aa,simprocAttr,ar,k1.call,k2.call,h2,g2,hj,hi];refine(eg rfl).2 ?_;simp only[rL',aa,simprocAttr,h1,g1,aJ]
theorem A6(oC:Std T 155 f155)(s:bc)(t:State)(load bX:Int)(hn:s.nodes.length<=2^29)(hl:t.pods.length<=2^29)(Q:Exit->St->Prop)
    (bS:∀fr hp nx,look fr 9=.pv (.int .i64 (fN s load bX t.pods:Nat))->Q (.exit 0) ⟨fr,hp,nx⟩) :
    ∀(rest:List dx) (i acc:Nat),t.pods.drop i=rest->i<=t.pods.length->acc+fN s load bX rest=fN s load bX t.pods->∀(fr:List (Nat×AV)) (hp:Hl) (nx:Nat),2<=nx->look fr 2=.pv (.int .i64 load)->look fr 3=.pv (.int .i64 bX)->look fr 4=.ptr 0 0 0->look fr 5=.ptr 1 0 0 ->
     ah hp 0=.var [.pv (.slice (s.nodes.map bB)),.pv (.slice (s.aU.map bN)),.pv (.slice (s.pods.map aJ))]->ah hp 1=.var [.pv (.slice (t.pods.map aJ)),.pv (.int .i64 t.pre),.pv (.int .i64 t.eW)] ->
     look fr 9=.pv (.int .i64 (acc:Int))->look fr 10=.pv (.int .i64 i)->Wp T false (.loop uk) ⟨fr,hp,nx⟩ Q:=by
 intro rest;induction rest with
 |nil =>
  intro i acc hd hi ho fr hp nx gR g2 g3 g4 g5 b0 b1 g9 yM;have hlen:=drop_nil hd hi;simp only[fN,fa]at ho;subst ho;rw[ay,aY uk.eq_1];simp only[rL',aa,simprocAttr,g4,g5,b0,b1,yM,hlen,aR];exact bS _ _ _ (by simp only[aj,Nat.reduceEqDiff];exact g9)
 |cons p r ih =>
  intro i acc hd hi ho fr hp nx gR g2 g3 g4 g5 b0 b1 g9 yM;obtain⟨aK,hlt,hw,di,cS,hb⟩:=drop_cons hd (by omega);have n0:¬nx=0:=by omega
  have n1:¬nx=1:=by omega
  have C9:acc+1<=2^30:=by
   have h1:=lQ s load bX t.pods;have h2:=lQ s load bX (p::r);omega
  have k:=lA oC s p.node (by omega);simp only[aD]at k;have skip:uQ s load bX p=false->∀fE hp' cE,2<=cE->look fE 2=look fr 2->look fE 3=look fr 3->look fE 4=look fr 4->look fE 5=look fr 5->ah hp' 0=ah hp 0->ah hp' 1=ah hp 1->look fE 9=look fr 9->look fE 10=.pv (.int .i64 ((i+1:Nat):Int))->Wp T false (.loop uk) ⟨fE,hp',cE⟩ Q:=by
   intro h fE hp' cE q1 q2 q3 q4 q5 q6 q7 q8 q9;exact ih (i+1) acc di cS (by rw[<-ho,fN,h];simp) _ _ _ q1 (q2.trans g2) (q3.trans g3) (q4.trans g4) (q5.trans g5) (q6.trans b0) (q7.trans b1) (q8.trans g9) q9
  rw[ay,aY uk.eq_1];by_cases c1:p.load=load
  ·have d1:=bI c1;by_cases c2:p.node=0
   ·have d2:=bI c2;have hz:uQ s load bX p=false:=by simp[uQ,c2]
    simp only[rL',aa,simprocAttr,g2,g3,g4,g5,b0,b1,g9,yM,hlt,aK,aJ,n0,n1,k.call,d1,d2,hw];refine skip hz _ _ _ (by omega) ?_ ?_ ?_ ?_ ?_ ?_ ?_ ?_
    all_goals try simp only[aj,Nat.reduceEqDiff,n0,n1]
   ·rcases ig p.node s.nodes 0 with⟨e1,e2⟩|⟨j,x,e1,e2,e3⟩
    ·have hz:uQ s load bX p=false:=by simp[uQ,qk,e1]
     rw[e2]at k;simp only[rL',aa,simprocAttr,g2,g3,g4,g5,b0,b1,g9,yM,hlt,aK,aJ,n0,n1,k.call,d1,c2,hw];refine skip hz _ _ _ (by omega) ?_ ?_ ?_ ?_ ?_ ?_ ?_ ?_
     all_goals try simp only[aj,Nat.reduceEqDiff,n0,n1]
    ·rw[e3,aQ]at k;have hj:¬(j:Int)<0:=by omega
     by_cases c3:x.bX=bX
     ·have d3:=bI c3;have hz:uQ s load bX p=true:=by simp[uQ,qk,e2,c1,c2,c3]
      have MS:IntKind.i64.wrap ((acc:Int)+1)=((acc+1:Nat):Int):=by rw[f9] <;>omega
      simp only[rL',aa,simprocAttr,g2,g3,g4,g5,b0,b1,g9,yM,hlt,aK,aJ,n0,n1,k.call,d1,c2,hj,e1,bB,d3,hw,MS];refine ih (i+1) (acc+1) di cS (by rw[<-ho,fN,hz];simp;omega) _ _ _ (by omega) ?_ ?_ ?_ ?_ ?_ ?_ ?_ ?_
      all_goals try simp only[aj,Nat.reduceEqDiff,n0,n1,g2,g3,g4,g5,b0,b1]
     ·have hz:uQ s load bX p=false:=by simp[uQ,qk,e2,c3]
      simp only[rL',aa,simprocAttr,g2,g3,g4,g5,b0,b1,g9,yM,hlt,aK,aJ,n0,n1,k.call,d1,c2,hj,e1,bB,c3,hw];refine skip hz _ _ _ (by omega) ?_ ?_ ?_ ?_ ?_ ?_ ?_ ?_
      all_goals try simp only[aj,Nat.reduceEqDiff,n0,n1]
  ·have hz:uQ s load bX p=false:=by simp[uQ,c1]
   simp only[rL',aa,simprocAttr,g2,g3,g4,g5,b0,b1,g9,yM,hlt,aK,aJ,n0,n1,k.call,c1,hw];refine skip hz _ _ _ (by omega) ?_ ?_ ?_ ?_ ?_ ?_ ?_ ?_
   all_goals try simp only[aj,Nat.reduceEqDiff,n0,n1]
theorem wK(K0:Std T 174 f174)(oC:Std T 155 f155)(s:bc)(t:State)(load bX:Int)(hn:s.nodes.length<=2^29)(hl:t.pods.length<=2^29):ba T 174 [aD s,ar t,.int .i64 load,.int .i64 bX] (.int .i64 (fN s load bX t.pods:Nat)):=by
 refine gives K0 rfl ?_;simp only[f174,rL',aa,simprocAttr,aD,ar];refine A6 oC s t load bX hn hl _ (fun fr hp nx g9=>?_) t.pods 0 0 rfl (aN _) (aQ _) _ _ _ (ax _) rfl rfl rfl rfl rfl rfl rfl rfl;simp only[rL',aa,simprocAttr,g9]
end
end
section
def IZ:Option (Int×Int)->Int
 |none=> -1
 |some (_,i)=>i
section
variable{T:cL}
set_option maxHeartbeats 4000000 in
theorem Ep(w5:Std T 180 f180)(qO:Std T 154 f154)(s:bc)(t:State)(hs:s.aU.length<=2^29)(ht:t.pods.length<=2^29)(i:Nat)(p:dx)(S4:t.pods[i]? =some p)(hp:Hl)(nx:Nat)
    (b0:ah hp 0=.var [.pv (.slice (s.nodes.map bB)),.pv (.slice (s.aU.map bN)),.pv (.slice (s.pods.map aJ))]) (b1:ah hp 1=.var [.pv (.slice (t.pods.map aJ)),.pv (.int .i64 t.pre),.pv (.int .i64 t.eW)])
    (Q:Exit->St->Prop) (b:Bool)
    (bS:b=false->∀fr,look fr 2=.ptr 0 0 0->look fr 3=.ptr 1 0 0->look fr 5=.pv (.int .i64 i)->Q (.exit 2) ⟨fr,hp,nx⟩)
    (dI:b=true->∀fr,look fr 4=.pv (.int .i64 i)->Q .ret ⟨fr,hp,nx⟩) :
    ∀(rest:List dx) (k:Nat),(t.pods.take i).drop k=rest->k<=(t.pods.take i).length->rest.any (fun q=>wu s.aU p q)=b->∀(fr:List (Nat×AV)),
     look fr 2=.ptr 0 0 0->look fr 3=.ptr 1 0 0->look fr 5=.pv (.int .i64 i)->look fr 6=.pv (.int .i64 k)->Wp T false (.loop yd) ⟨fr,hp,nx⟩ Q:=by
 have Tf:i<t.pods.length:=(aA.1 S4).1;have htl:(t.pods.take i).length=i:=by rw[hZ];omega
 intro rest;induction rest with
 |nil =>
  intro k hd hk hb fr h2 h3 h5 h6;have hlen:=drop_nil hd hk;rw[htl]at hlen;subst hlen;rw[ay,aY yd.eq_1];simp only[rL',aa,simprocAttr,h2,h3,h5,h6,aR];refine bS (by rw[<-hb];rfl) _ ?_ ?_ ?_
  all_goals try simp only[aj,Nat.reduceEqDiff,h2,h3,h5]
 |cons q r ih =>
  intro k hd hk hb fr h2 h3 h5 h6;obtain⟨aK,hlt,hw,di,Qq,Bu⟩:=drop_cons hd (by omega);rw[htl]at hlt;have P0:k<i:=by omega
  have Te:t.pods[k]? =some q:=by
   rw[mf]at aK;rw[aW P0]at aK;exact aK
  have kt:=L9 w5 qO s (by omega) p q;simp only[aD]at kt;rw[ay,aY yd.eq_1];simp only[rL',aa,simprocAttr,h2,h3,h5,h6,hlt];refine(eg rfl).2 ?_;cases h:wu s.aU p q with
  |false =>
   rw[h]at kt;simp only[aJ]at kt;simp only[rL',aa,simprocAttr,h2,h3,h5,h6,b0,b1,S4,Te,aJ,kt.cn,hw];refine ih (k+1) di Qq (by rw[<-hb];simp[h]) _ ?_ ?_ ?_ ?_
   all_goals try simp only[aj,Nat.reduceEqDiff,h2,h3,h5]
  |true =>
   rw[h]at kt;simp only[aJ]at kt;simp only[rL',aa,simprocAttr,h2,h3,h5,h6,b0,b1,S4,Te,aJ,kt.cn];refine dI (by rw[<-hb];simp[h]) _ ?_
   all_goals try simp only[aj,Nat.reduceEqDiff,h5]
set_option maxHeartbeats 4000000 in
theorem BG(w5:Std T 180 f180)(qO:Std T 154 f154)(s:bc)(t:State)(hs:s.aU.length<=2^29)(ht:t.pods.length<=2^29)(hp:Hl)(nx:Nat)
    (b0:ah hp 0=.var [.pv (.slice (s.nodes.map bB)),.pv (.slice (s.aU.map bN)),.pv (.slice (s.pods.map aJ))]) (b1:ah hp 1=.var [.pv (.slice (t.pods.map aJ)),.pv (.int .i64 t.pre),.pv (.int .i64 t.eW)])
    (Q:Exit->St->Prop) (o:Option (Int×Int))
    (bS:o=none->∀fr,Q (.exit 0) ⟨fr,hp,nx⟩) (dI:∀c a,o=some (c,a)->∀fr,look fr 4=.pv (.int .i64 a)->Q .ret ⟨fr,hp,nx⟩) :
    ∀(rest:List dx) (i:Nat),t.pods.drop i=rest->i<=t.pods.length->dN s.aU (t.pods.take i) rest=o->∀(fr:List (Nat×AV)),
     look fr 2=.ptr 0 0 0->look fr 3=.ptr 1 0 0->look fr 5=.pv (.int .i64 i)->Wp T false (.loop ye) ⟨fr,hp,nx⟩ Q:=by
 intro rest;induction rest with
 |nil =>
  intro i hd hi ho fr h2 h3 h5;have hlen:=drop_nil hd hi;rw[ay,aY ye.eq_1];simp only[rL',aa,simprocAttr,h2,h3,h5,b1,hlen,aR];exact bS ho.symm _
 |cons p r ih =>
  intro i hd hi ho fr h2 h3 h5;obtain⟨aK,hlt,hw,di,cS,Bu⟩:=drop_cons hd (by omega);have htl:(t.pods.take i).length=i:=by rw[hZ];omega
  have Po:t.pods.take (i+1)=t.pods.take i++[p]:=by
   have Tf:i<t.pods.length:=by omega
   rw[List.take_add_one,aK];rfl
  simp only[dN]at ho;rw[ay,aY ye.eq_1];simp only[rL',aa,simprocAttr,h2,h3,h5,b1,hlt];refine Ep w5 qO s t hs ht i p aK hp nx b0 b1 _ _ (fun hb fr g2 g3 g5=>?_) (fun hb fr g4=>?_) (t.pods.take i) 0 rfl (aN _) rfl _ ?_ ?_ ?_ ?_
  ·rw[aw (by rw[hb];simp)]at ho;simp only[rL',aa,simprocAttr,g5,hw];refine ih (i+1) di cS (by rw[Po];exact ho) _ ?_ ?_ ?_
   all_goals try simp only[aj,Nat.reduceEqDiff,g2,g3]
  ·rw[aW hb,htl]at ho;simp only[rL',aa,simprocAttr];exact dI 10 i ho.symm _ g4
  all_goals try simp only[aj,Nat.reduceEqDiff,h2,h3,h5]
  rfl
theorem Er(JY:Std T 172 f172)(w5:Std T 180 f180)(qO:Std T 154 f154)(s:bc)(t:State)(hs:s.aU.length<=2^29)(ht:t.pods.length<=2^29):ba T 172 [aD s,ar t] (.int .i64 (IZ (dN s.aU [] t.pods))):=by
 refine gives JY rfl ?_;simp only[f172,rL',aa,simprocAttr,aD,ar];refine BG w5 qO s t hs ht _ _ rfl rfl _ (dN s.aU [] t.pods) (fun ho fr=>?_) (fun c a ho fr h4=>?_) t.pods 0 rfl (aN _) rfl _ rfl rfl rfl
 ·simp only[rL',aa,simprocAttr,ho,IZ]
 ·simp only[rL',aa,simprocAttr,ho,IZ,h4]
/-! ### TS -/
def qv(c:List Int)(a:Int)(b:Int):Int:=c.foldl (fun b k=>max b (a-k)) b
def GD(c:List Int):Int:=c.foldl (fun b a=>qv c a b) 0
theorem zX(a M:Int):∀(c:List Int) (b:Int),(qv c a b<=M)↔(b<=M/\∀k∈c,a-k<=M)
 |[],b=>by simp[qv]
 |k::r,b=>by
  have ih:=zX a M r (max b (a-k));simp only[qv,gL]at ih⊢;rw[ih];simp only[aS,forall_eq_or_imp];constructor
  ·rintro⟨h1,h2⟩
   exact⟨by omega,by omega,h2⟩
  ·rintro⟨h1,h2,h3⟩
   exact⟨by omega,h3⟩
theorem tR(M:Int)(c:List Int):∀(d:List Int) (b:Int),(d.foldl (fun b a=>qv c a b) b<=M)↔(b<=M/\∀a∈d,∀k∈c,a-k<=M)
 |[],b=>by simp
 |a::r,b=>by
  have ih:=tR M c r (qv c a b);simp only[gL,aS,forall_eq_or_imp];rw[ih,zX];constructor
  ·rintro⟨⟨h1,h2⟩,h3⟩
   exact⟨h1,h2,h3⟩
  ·rintro⟨h1,h2,h3⟩
   exact⟨⟨h1,h2⟩,h3⟩
theorem pK:∀(l:List Int) (a:Int),l.foldl max a=a\/l.foldl max a∈l
 |[],a=>.inl rfl
 |x::r,a=>by
  rcases pK r (max a x)with h|h
  ·rw[gL,h];rcases Int.le_total a x with h1|h1
   ·exact .inr (by rw[show max a x=x by omega];exact bM ..)
   ·exact .inl (by omega)
  ·exact .inr (bf _ h)
theorem pL:∀(l:List Int) (a:Int),l.foldl min a=a\/l.foldl min a∈l
 |[],a=>.inl rfl
 |x::r,a=>by
  rcases pL r (min a x)with h|h
  ·rw[gL,h];rcases Int.le_total a x with h1|h1
   ·exact .inl (by omega)
   ·exact .inr (by rw[show min a x=x by omega];exact bM ..)
  ·exact .inr (bf _ h)
theorem qF:∀(l:List Int) (a:Int),a<=l.foldl max a/\∀x∈l,x<=l.foldl max a
 |[],a=>⟨TN _,fun x h=>by simp at h⟩
 |y::r,a=>by
  obtain⟨h1,h2⟩:=qF r (max a y);rw[gL];refine⟨by omega,fun x hx=>?_⟩;rcases aS.1 hx with rfl|hx
  ·omega
  ·exact h2 x hx
theorem qG:∀(l:List Int) (a:Int),l.foldl min a<=a/\∀x∈l,l.foldl min a<=x
 |[],a=>⟨TN _,fun x h=>by simp at h⟩
 |y::r,a=>by
  obtain⟨h1,h2⟩:=qG r (min a y);rw[gL];refine⟨by omega,fun x hx=>?_⟩;rcases aS.1 hx with rfl|hx
  ·omega
  ·exact h2 x hx
theorem BL(c:List Int):GD c=zq c:=by
 cases c with
 |nil=>rfl
 |cons n r =>
  have e1:mostL (n::r)=(n::r).foldl max n:=rfl;have e2:leastL (n::r)=(n::r).foldl min n:=rfl;have a1:=qF (n::r) n;have a2:=qG (n::r) n;have m1:mostL (n::r)∈n::r:=by
   rw[e1];rcases pK (n::r) n with h|h
   ·rw[h];exact bM ..
   ·exact h
  have m2:leastL (n::r)∈n::r:=by
   rw[e2];rcases pL (n::r) n with h|h
   ·rw[h];exact bM ..
   ·exact h
  rw[<-e1]at a1;rw[<-e2]at a2;show GD (n::r)=mostL (n::r)-leastL (n::r);apply Int.le_antisymm
  ·refine(tR _ _ _ _).2 ⟨by have:=a1.1;have:=a2.1;omega,fun a ha k hk=>?_⟩;have:=a1.2 a ha;have:=a2.2 k hk;omega
  ·exact((tR (GD (n::r)) (n::r) (n::r) 0).1 (TN _)).2 _ m1 _ m2
end
end
section
structure wC(T:cL):Prop where
 Mm:Std T 158 f158
 oC:Std T 155 f155
 K0:Std T 174 f174
 Ri:Std T 177 f177
section
variable{T:cL}
set_option maxHeartbeats 4000000 in
theorem Iw(S:wC T)(s:bc)(t:State)(load:Int)(hn:s.nodes.length<=2^28)(ht:t.pods.length<=2^29)(i:Nat)(z:Int)(Qv:(eb s)[i]? =some z)(hp:Hl)(nx:Nat)
    (b0:ah hp 0=.var [.pv (.slice (s.nodes.map bB)),.pv (.slice (s.aU.map bN)),.pv (.slice (s.pods.map aJ))]) (b1:ah hp 1=.var [.pv (.slice (t.pods.map aJ)),.pv (.int .i64 t.pre),.pv (.int .i64 t.eW)])
    (Q:Exit->St->Prop) (o:Int)
    (bS:∀fr,look fr 2=.pv (.int .i64 load)->look fr 3=.ptr 0 0 0->look fr 4=.ptr 1 0 0->look fr 7=.pv (.slice ((eb s).map cF))->look fr 8=.pv (.int .i64 o)->look fr 9=.pv (.int .i64 i)->Q (.exit 2) ⟨fr,hp,nx⟩) :
    ∀(rest:List Int) (k:Nat) (acc:Int),(eb s).drop k=rest->k<=(eb s).length->qv (rest.map fun y=>((fN s load y t.pods:Nat):Int)) ((fN s load z t.pods:Nat):Int) acc=o->∀(fr:List (Nat×AV)),
     look fr 2=.pv (.int .i64 load)->look fr 3=.ptr 0 0 0->look fr 4=.ptr 1 0 0->look fr 7=.pv (.slice ((eb s).map cF))->look fr 8=.pv (.int .i64 acc)->look fr 9=.pv (.int .i64 i)->look fr 10=.pv (.int .i64 k)->Wp T false (.loop yh) ⟨fr,hp,nx⟩ Q:=by
 have Tw:(eb s).length<=2^28:=by
  have:=fu (s.nodes.map Node.bX);rw[al]at this;exact cQ this hn
 have k1:=wK S.K0 S.oC s t load z (by omega) ht;simp only[aD,ar]at k1;intro rest;induction rest with
 |nil =>
  intro k acc hd hk ho fr h2 h3 h4 h7 h8 h9 h10;have hlen:=drop_nil hd hk;rw[ay,aY yh.eq_1];simp only[rL',aa,simprocAttr,h2,h3,h4,h7,h8,h9,h10,hlen,aR];refine bS _ ?_ ?_ ?_ ?_ ?_ ?_
  all_goals try simp only[aj,Nat.reduceEqDiff,h2,h3,h4,h7,h9]
  rw[h8,<-ho];rfl
 |cons y r ih =>
  intro k acc hd hk ho fr h2 h3 h4 h7 h8 h9 h10;obtain⟨aK,hlt,hw,di,Qq,Bu⟩:=drop_cons hd (by omega);have k2:=wK S.K0 S.oC s t load y (by omega) ht;simp only[aD,ar]at k2;have ha:=lQ s load z t.pods;have hb:=lQ s load y t.pods;have Qu:IntKind.i64.wrap (((fN s load z t.pods:Nat):Int)-((fN s load y t.pods:Nat):Int))=((fN s load z t.pods:Nat):Int)-((fN s load y t.pods:Nat):Int):=by rw[f9] <;>omega
  simp only[aX,qv,gL]at ho;rw[ay,aY yh.eq_1];simp only[rL',aa,simprocAttr,h2,h3,h4,h7,h8,h9,h10,hlt];refine(eg rfl).2 ?_;by_cases c1:acc<((fN s load z t.pods:Nat):Int)-((fN s load y t.pods:Nat):Int)
  ·rw[show max acc (((fN s load z t.pods:Nat):Int)-((fN s load y t.pods:Nat):Int))=((fN s load z t.pods:Nat):Int)-((fN s load y t.pods:Nat):Int) by omega]at ho;simp only[rL',aa,simprocAttr,h2,h3,h4,h7,h8,h9,h10,b0,b1,Qv,aK,cF,k1.cn,k2.cn,Qu,c1,hw];refine ih (k+1) _ di Qq ho _ ?_ ?_ ?_ ?_ ?_ ?_ ?_
   all_goals try simp only[aj,Nat.reduceEqDiff,h2,h3,h4,h7,h9]
  ·rw[show max acc (((fN s load z t.pods:Nat):Int)-((fN s load y t.pods:Nat):Int))=acc by omega]at ho;simp only[rL',aa,simprocAttr,h2,h3,h4,h7,h8,h9,h10,b0,b1,Qv,aK,cF,k1.cn,k2.cn,Qu,c1,hw];refine ih (k+1) _ di Qq ho _ ?_ ?_ ?_ ?_ ?_ ?_ ?_
   all_goals try simp only[aj,Nat.reduceEqDiff,h2,h3,h4,h7,h8,h9]
set_option maxHeartbeats 4000000 in
theorem FO(S:wC T)(s:bc)(t:State)(load:Int)(hn:s.nodes.length<=2^28)(ht:t.pods.length<=2^29)(hp:Hl)(nx:Nat)
    (b0:ah hp 0=.var [.pv (.slice (s.nodes.map bB)),.pv (.slice (s.aU.map bN)),.pv (.slice (s.pods.map aJ))]) (b1:ah hp 1=.var [.pv (.slice (t.pods.map aJ)),.pv (.int .i64 t.pre),.pv (.int .i64 t.eW)])
    (Q:Exit->St->Prop) (o:Int) (bS:∀fr,look fr 8=.pv (.int .i64 o)->Q (.exit 0) ⟨fr,hp,nx⟩) :
    ∀(rest:List Int) (i:Nat) (acc:Int),(eb s).drop i=rest->i<=(eb s).length->(rest.map fun y=>((fN s load y t.pods:Nat):Int)).foldl (fun b a=>qv (oj s load t.pods) a b) acc=o->∀(fr:List (Nat×AV)),
     look fr 2=.pv (.int .i64 load)->look fr 3=.ptr 0 0 0->look fr 4=.ptr 1 0 0->look fr 7=.pv (.slice ((eb s).map cF))->look fr 8=.pv (.int .i64 acc)->look fr 9=.pv (.int .i64 i)->Wp T false (.loop yi) ⟨fr,hp,nx⟩ Q:=by
 have Tw:(eb s).length<=2^28:=by
  have:=fu (s.nodes.map Node.bX);rw[al]at this;exact cQ this hn
 intro rest;induction rest with
 |nil =>
  intro i acc hd hi ho fr h2 h3 h4 h7 h8 h9;have hlen:=drop_nil hd hi;rw[ay,aY yi.eq_1];simp only[rL',aa,simprocAttr,h2,h3,h4,h7,h8,h9,hlen,aR];refine bS _ ?_
  all_goals try simp only[aj,Nat.reduceEqDiff,]
  rw[h8,<-ho];rfl
 |cons z r ih =>
  intro i acc hd hi ho fr h2 h3 h4 h7 h8 h9;obtain⟨aK,hlt,hw,di,cS,Bu⟩:=drop_cons hd (by omega);simp only[aX,gL]at ho;rw[ay,aY yi.eq_1];simp only[rL',aa,simprocAttr,h2,h3,h4,h7,h8,h9,hlt];refine Iw S s t load hn ht i z aK hp nx b0 b1 _ _ (fun fr g2 g3 g4 g7 g8 g9=>?_) (eb s) 0 acc rfl (aN _) rfl _ ?_ ?_ ?_ ?_ ?_ ?_ ?_
  ·simp only[rL',aa,simprocAttr,g9,hw];refine ih (i+1) _ di cS ho _ ?_ ?_ ?_ ?_ ?_ ?_
   all_goals try simp only[aj,Nat.reduceEqDiff,g2,g3,g4,g7]
   rw[g8];rfl
  all_goals try simp only[aj,Nat.reduceEqDiff,h2,h3,h4,h7,h8,h9]
  rfl
theorem Ix(S:wC T)(s:bc)(t:State)(load:Int)(hn:s.nodes.length<=2^28)(ht:t.pods.length<=2^29):ba T 177 [aD s,ar t,.int .i64 load] (.int .i64 (vv s load t.pods)):=by
 have kz:=G1 S.Mm s hn;simp only[aD]at kz;refine gives S.Ri rfl ?_;simp only[f177,rL',aa,simprocAttr,aD,ar,kz.call];refine FO S s t load hn ht _ _ rfl rfl _ (vv s load t.pods) (fun fr h8=>?_) (eb s) 0 0 rfl (aN _) (BL (oj s load t.pods)) _ rfl rfl rfl rfl rfl rfl;simp only[rL',aa,simprocAttr,h8]
/-! ### QO -/
set_option maxHeartbeats 4000000 in
theorem zt(S:wC T)(s:bc)(t:State)(hn:s.nodes.length<=2^28)(ht:t.pods.length<=2^29)(mJ:s.aU.length<=2^29)(hp:Hl)(nx:Nat)
    (b0:ah hp 0=.var [.pv (.slice (s.nodes.map bB)),.pv (.slice (s.aU.map bN)),.pv (.slice (s.pods.map aJ))]) (b1:ah hp 1=.var [.pv (.slice (t.pods.map aJ)),.pv (.int .i64 t.pre),.pv (.int .i64 t.eW)])
    (Q:Exit->St->Prop) (o:Option (Int×Int))
    (bS:o=none->∀fr,Q (.exit 0) ⟨fr,hp,nx⟩) (dI:∀c a,o=some (c,a)->∀fr,look fr 4=.pv (.int .i64 a)->Q .ret ⟨fr,hp,nx⟩) :
    ∀(rest:List fD) (i:Nat),s.aU.drop i=rest->i<=s.aU.length->dw s t.pods i rest=o->∀(fr:List (Nat×AV)),
     look fr 2=.ptr 0 0 0->look fr 3=.ptr 1 0 0->look fr 5=.pv (.int .i64 i)->Wp T false (.loop yj) ⟨fr,hp,nx⟩ Q:=by
 intro rest;induction rest with
 |nil =>
  intro i hd hi ho fr h2 h3 h5;have hlen:=drop_nil hd hi;rw[ay,aY yj.eq_1];simp only[rL',aa,simprocAttr,h2,h3,h5,b0,hlen,aR];exact bS ho.symm _
 |cons l r ih =>
  intro i hd hi ho fr h2 h3 h5;obtain⟨aK,hlt,hw,di,cS,hb⟩:=drop_cons hd (by omega);have k:=Ix S s t l.id hn ht;simp only[aD,ar]at k;simp only[dw]at ho;rw[ay,aY yj.eq_1];simp only[rL',aa,simprocAttr,h2,h3,h5,b0,hlt];refine(eg rfl).2 ?_;by_cases c1:0<l.so
  ·by_cases c2:l.so<vv s l.id t.pods
   ·rw[aW ⟨c1,c2⟩]at ho;simp only[rL',aa,simprocAttr,h2,h3,h5,b0,b1,aK,bN,k.cn,c1,c2];refine dI 11 i ho.symm _ ?_
    all_goals try simp only[aj,Nat.reduceEqDiff,h5]
   ·rw[aw fun h=>c2 h.2]at ho;simp only[rL',aa,simprocAttr,h2,h3,h5,b0,b1,aK,bN,k.cn,c1,c2,hw];refine ih (i+1) di cS ho _ ?_ ?_ ?_
    all_goals try simp only[aj,Nat.reduceEqDiff,h2,h3]
  ·rw[aw fun h=>c1 h.1]at ho;simp only[rL',aa,simprocAttr,h2,h3,h5,b0,b1,aK,bN,k.cn,c1,hw];refine ih (i+1) di cS ho _ ?_ ?_ ?_
   all_goals try simp only[aj,Nat.reduceEqDiff,h2,h3]
theorem CT(S:wC T)(K3:Std T 178 f178)(s:bc)(t:State)(hn:s.nodes.length<=2^28)(ht:t.pods.length<=2^29)(mJ:s.aU.length<=2^29):ba T 178 [aD s,ar t] (.int .i64 (IZ (dw s t.pods 0 s.aU))):=by
 refine gives K3 rfl ?_;simp only[f178,rL',aa,simprocAttr,aD,ar];refine zt S s t hn ht mJ _ _ rfl rfl _ (dw s t.pods 0 s.aU) (fun ho fr=>?_) (fun c a ho fr h4=>?_) s.aU 0 rfl (aN _) rfl _ rfl rfl rfl
 ·simp only[rL',aa,simprocAttr,ho,IZ]
 ·simp only[rL',aa,simprocAttr,ho,IZ,h4]
end
end
section
theorem mB(s:bc)(pods:List dx):∀(l:List Node) (i:Nat) (c a:Int),dS s pods i l=some (c,a)->c≠0
 |[],i,c,a,h=>by simp[dS]at h
 |n::r,i,c,a,h=>by
  unfold dS at h;split at h
  ·exact mB s pods r (i+1) c a h
  ·rename_i hc;simp only[ai,b9]at h;rw[<-h.1];exact hc
theorem iS(ls:List fD):∀(l prev:List dx) (c a:Int),dN ls prev l=some (c,a)->c=10/\0<=a
 |[],prev,c,a,h=>by simp[dN]at h
 |p::r,prev,c,a,h=>by
  unfold dN at h;split at h
  ·simp only[ai,b9]at h;omega
  ·exact iS ls r _ c a h
theorem iF(s:bc)(pods:List dx):∀(l:List fD) (i:Nat) (c a:Int),dw s pods i l=some (c,a)->c=11/\0<=a
 |[],i,c,a,h=>by simp[dw]at h
 |n::r,i,c,a,h=>by
  unfold dw at h;split at h
  ·simp only[ai,b9]at h;omega
  ·exact iF s pods r (i+1) c a h
theorem nd(pods:List dx):∀(l:List fD) (i:Nat) (c a:Int),eJ pods i l=some (c,a)->c≠0
 |[],i,c,a,h=>by simp[eJ]at h
 |n::r,i,c,a,h=>by
  unfold eJ at h;split at h
  ·simp only[ai,b9]at h;omega
  ·split at h
   ·simp only[ai,b9]at h;omega
   ·exact nd pods r (i+1) c a h
def oW(s:bc)(x:Spec)(t:State):Int×Int:=match dS s t.pods 0 s.nodes with
 |some q=>q
 |none=>match dN s.aU [] t.pods with
  |some q=>q
  |none=>match dw s t.pods 0 s.aU with
   |some q=>q
   |none=>match eJ t.pods 0 s.aU with
    |some q=>q
    |none=>if nP x t=true then(15,-1)else(0,-1)
theorem mT(s:bc)(x:Spec)(t:State):(fF (nG s x t)=true/\(oW s x t).1=0)\/(fF (nG s x t)=false/\(oW s x t).1=mm (nG s x t)/\(oW s x t).1≠0):=by
 unfold oW nG Ad;cases h1:dS s t.pods 0 s.nodes with
 |some q=>exact .inr ⟨rfl,rfl,mB s t.pods _ _ q.1 q.2 h1⟩
 |none =>
  cases h2:dN s.aU [] t.pods with
  |some q=>exact .inr ⟨rfl,rfl,by have:=(iS s.aU _ _ q.1 q.2 h2).1;dsimp only;omega⟩
  |none =>
   cases h3:dw s t.pods 0 s.aU with
   |some q=>exact .inr ⟨rfl,rfl,by have:=(iF s t.pods _ _ q.1 q.2 h3).1;dsimp only;omega⟩
   |none =>
    cases h4:eJ t.pods 0 s.aU with
    |some q=>exact .inr ⟨rfl,rfl,nd t.pods _ _ q.1 q.2 h4⟩
    |none =>
     cases h5:nP x t with
     |true=>exact .inr ⟨rfl,rfl,by decide⟩
     |false=>exact .inl ⟨rfl,rfl⟩
structure Lf(T:cL):Prop where
 r:wC T
 s6:D8 T
 JX:Std T 169 f169
 JY:Std T 172 f172
 JZ:Std T 173 f173
 At:Std T 176 f176
 K3:Std T 178 f178
 K4:Std T 179 f179
 w5:Std T 180 f180
 qO:Std T 154 f154
 On:Std T 184 f184
section
variable{T:cL}
set_option maxHeartbeats 4000000 in
theorem zx(S:Lf T)(s:bc)(x:Spec)(t:State)(hn:s.nodes.length<=2^28)(mJ:s.aU.length<=2^29)(ht:t.pods.length<=2^29)(hw:∀p∈t.pods,p.wf):ba T 184 [aD s,bd x,ar t] (.tuple [.int .i64 (oW s x t).1,.int .i64 (oW s x t).2]):=by
 have k1:=Io S.s6 S.JX s t (by omega) (by omega) hw;have k2:=Er S.JY S.w5 S.qO s t mJ ht;have k3:=CT S.r S.K3 s t hn ht mJ;have k4:=BV S.JZ S.At s t (by omega) (by omega);have k5:=FW S.K4 x t;simp only[aD,bd,ar]at k1 k2 k3 k4 k5;refine gives S.On rfl ?_;unfold oW;cases h1:dS s t.pods 0 s.nodes with
 |some q =>
  obtain⟨c,a⟩:=q;have hc:=mB s t.pods _ _ c a h1;rw[h1]at k1;simp only[jO]at k1;simp only[f184,rL',aa,simprocAttr,aD,bd,ar,k1.call,hc]
 |none =>
  rw[h1]at k1;simp only[jO]at k1;cases h2:dN s.aU [] t.pods with
  |some q =>
   obtain⟨c,a⟩:=q;obtain⟨rfl,ha⟩:=iS s.aU _ _ c a h2;rw[h2]at k2;simp only[IZ]at k2;simp only[f184,rL',aa,simprocAttr,aD,bd,ar,k1.call,k2.call,ha]
  |none =>
   rw[h2]at k2;simp only[IZ]at k2;cases h3:dw s t.pods 0 s.aU with
   |some q =>
    obtain⟨c,a⟩:=q;obtain⟨rfl,ha⟩:=iF s t.pods _ _ c a h3;rw[h3]at k3;simp only[IZ]at k3;simp only[f184,rL',aa,simprocAttr,aD,bd,ar,k1.call,k2.call,k3.call,ha]
   |none =>
    rw[h3]at k3;simp only[IZ]at k3;cases h4:eJ t.pods 0 s.aU with
    |some q =>
     obtain⟨c,a⟩:=q;have hc:=nd t.pods _ _ c a h4;rw[h4]at k4;simp only[jO]at k4;simp only[f184,rL',aa,simprocAttr,aD,bd,ar,k1.call,k2.call,k3.call,k4.call,hc]
    |none =>
     rw[h4]at k4;simp only[jO]at k4;cases h5:nP x t <;>
     ·rw[h5]at k5;simp only[f184,rL',aa,simprocAttr,aD,bd,ar,k1.call,k2.call,k3.call,k4.call,k5.call,bK]
end
end
section
def lN(c:Int):Prop:=1<=c/\c<=17
theorem oR(s:bc)(pods:List dx):∀(l:List Node) (i:Nat) (c a:Int),dS s pods i l=some (c,a)->lN c
 |[],i,c,a,h=>by simp[dS]at h
 |n::r,i,c,a,h=>by
  unfold dS at h;split at h
  ·exact oR s pods r (i+1) c a h
  ·rename_i hc;simp only[ai,b9]at h;rw[<-h.1];exact((oQ s pods n.id).resolve_left hc).2
theorem pF(pods:List dx):∀(l:List fD) (i:Nat) (c a:Int),eJ pods i l=some (c,a)->lN c
 |[],i,c,a,h=>by simp[eJ]at h
 |n::r,i,c,a,h=>by
  unfold eJ at h;unfold lN;split at h
  ·simp only[ai,b9]at h;omega
  ·split at h
   ·simp only[ai,b9]at h;omega
   ·exact pF pods r (i+1) c a h
theorem D2(s:bc)(x:Spec)(t:State):(oW s x t).1=0\/lN (oW s x t).1:=by
 unfold oW;cases h1:dS s t.pods 0 s.nodes with
 |some q=>exact .inr (oR s t.pods _ _ q.1 q.2 h1)
 |none =>
  cases h2:dN s.aU [] t.pods with
  |some q=>exact .inr (by have:=(iS s.aU _ _ q.1 q.2 h2).1;unfold lN;dsimp only;omega)
  |none =>
   cases h3:dw s t.pods 0 s.aU with
   |some q=>exact .inr (by have:=(iF s t.pods _ _ q.1 q.2 h3).1;unfold lN;dsimp only;omega)
   |none =>
    cases h4:eJ t.pods 0 s.aU with
    |some q=>exact .inr (pF t.pods _ _ q.1 q.2 h4)
    |none =>
     cases h5:nP x t with
     |true=>exact .inr (by unfold lN;decide)
     |false=>exact .inl rfl
theorem uZ(s:bc)(x:Spec)(t:State)(m:Move)(c:Int)(h:bJ s x t m=.inl c):lN c:=by
 unfold bJ at h;unfold lN;split at h
 ·simp at h;omega
 ·split at h
  ·simp at h;omega
  ·split at h
   ·simp at h;omega
   ·split at h
    ·simp at h;omega
    ·rename_i hi qR ho;obtain⟨j,hj⟩:∃j:Nat,bx m.eU 0 t.pods=(j:Int):=⟨(bx m.eU 0 t.pods).toNat,by omega⟩;obtain⟨p,g1,g2,g3⟩:=iD hj;rw[hj]at h;simp only[bY,g1]at h;by_cases k2:m.kind=2
     ·rw[aW k2]at h;split at h
      ·simp at h;omega
      ·simp at h
     ·rw[aw k2]at h;split at h
      ·split at h
       ·simp at h;omega
       ·split at h
        ·simp at h;omega
        ·simp at h
      ·split at h
       ·rename_i k4;have Pb:¬bx m.over 0 t.pods<0:=fun hh=>ho ⟨k4,hh⟩;obtain⟨k,hk⟩:∃k:Nat,bx m.over 0 t.pods=(k:Int):=⟨(bx m.over 0 t.pods).toNat,by omega⟩;obtain⟨q,f1,f2,f3⟩:=iD hk;rw[hk]at h;simp only[bY,f1]at h;split at h
        ·simp at h;omega
        ·split at h
         ·simp at h;omega
         ·split at h
          ·simp at h;omega
          ·simp at h
       ·split at h
        ·simp at h;omega
        ·simp at h
theorem A8(s:bc)(x:Spec)(t:State)(m:Move)(c:Int)(h:nS s x t m=.inl c):lN c:=by
 unfold nS at h;split at h
 ·rename_i c' hm;simp only[Sum.inl.injEq]at h;subst h;exact uZ s x t m _ hm
 ·rename_i u hm;split at h
  ·split at h
   ·simp at h
   ·rename_i hw;simp only[Sum.inl.injEq]at h;subst h;rcases mT s x u with⟨h1,h2⟩|⟨h1,h2,h3⟩
    ·exact absurd h1 hw
    ·rw[<-h2];exact(D2 s x u).resolve_left h3
  ·simp only[Sum.inl.injEq]at h;subst h;unfold lN
   decide
def cR:Int ⊕ State->PV
 | .inl c=>.tuple [ar dZ,.int .i64 c]
 | .inr u=>.tuple [ar u,.int .i64 0]
section
variable{T:cL}
structure Gg(T:cL):Prop where
 w:Lf T
 K2:Std T 175 f175
 nV:Std T 167 f167
 Ol:Std T 181 f181
set_option maxHeartbeats 4000000 in
theorem GU(S:Gg T)(s:bc)(x:Spec)(t:State)(m:Move)(km:ba T 166 [aD s,bd x,ar t,du m] (cR (bJ s x t m)))(hn:s.nodes.length<=2^28)(mJ:s.aU.length<=2^29)(hl:t.pods.length<=2^29)(hx:∀w∈x.aZ,w.wf)(ht:∀p∈t.pods,p.wf)(hm:m.wf) :
    ba T 181 [aD s,bd x,ar t,du m] (cR (nS s x t m)):=by
 have kp:=KD S.K2 S.nV t m.eU m.over hl;refine gives S.Ol rfl ?_;unfold nS;cases AA:bJ s x t m with
 |inl c =>
  have hc:=uZ s x t m c AA;have Lw:¬c=0:=by unfold lN at hc;omega
  rw[AA]at km;simp only[cR,dZ,aD,bd,ar,du,bF,az]at km;simp only[f181,rL',aa,simprocAttr,aD,bd,ar,du,bF,km.call,cR,dZ,az,Lw]
 |inr u =>
  rw[AA]at km;have Tr:=(lu s x t u m AA).2;have kw:=zx S.w s x u hn mJ (by omega) (qZ hx ht hm AA);simp only[cR,aD,bd,ar,du,bF]at km kp kw;dsimp only;have fin:xg t m=true->ba T 175 [.agg [.slice (t.pods.map aJ),.int .i64 t.pre,.int .i64 t.eW],.int .i64 m.eU,.int .i64 m.over] (.bool (AZ t m.eU m.over)):=fun _=>kp;unfold xg;by_cases k4:m.kind=4
  ·have d4:=bI k4;rw[aW k4];cases P4:AZ t m.eU m.over with
   |false =>
    rw[P4]at kp;simp only[f181,rL',aa,simprocAttr,aD,bd,ar,du,bF,km.call,kp.call,cR,dZ,az,d4,bK]
   |true =>
    rw[P4]at kp;rcases mT s x u with⟨h1,h2⟩|⟨h1,h2,h3⟩
    ·rw[h2]at kw;rw[h1];simp only[f181,rL',aa,simprocAttr,aD,bd,ar,du,bF,km.call,kp.call,kw.call,cR,d4]
    ·rw[h2]at kw h3;rw[h1];simp only[f181,rL',aa,simprocAttr,aD,bd,ar,du,bF,km.call,kp.call,kw.call,cR,dZ,az,d4,h3,bK]
  ·rw[aw k4];rcases mT s x u with⟨h1,h2⟩|⟨h1,h2,h3⟩
   ·rw[h2]at kw;rw[h1];simp only[f181,rL',aa,simprocAttr,aD,bd,ar,du,bF,km.call,kp.call,kw.call,cR,k4]
   ·rw[h2]at kw h3;rw[h1];simp only[f181,rL',aa,simprocAttr,aD,bd,ar,du,bF,km.call,kp.call,kw.call,cR,dZ,az,k4,h3,bK]
end
end
section
def N7:Option Int->Int
 |none=>0
 |some c=>c
def Ea(s:bc)(x:Spec)(l:List Move):State×Nat×Int :=
 if fF (nG s x (bR s))=true then((cA s x l (bR s) 0).1,(cA s x l (bR s) 0).2.1,N7 (cA s x l (bR s) 0).2.2)else(dZ,0,mm (nG s x (bR s)))
def vH(w:State×Nat×Int):PV:=.tuple [ar w.1,.int .i64 (w.2.1:Nat),.int .i64 w.2.2]
structure Lg(T:cL):Prop where
 d:Gg T
 Hh:Std T 164 f164
 Om:Std T 183 f183
section
variable{T:cL}
set_option maxRecDepth 100000 in
set_option maxHeartbeats 4000000 in
theorem D1(S:Gg T)(s:bc)(x:Spec)(ms:List Move)(AA:∀t m,t.pods.length<=2^29->ba T 166 [aD s,bd x,ar t,du m] (cR (bJ s x t m)))(hn:s.nodes.length<=2^28)(mJ:s.aU.length<=2^29)(NC:ms.length<=2^29)(hx:∀w∈x.aZ,w.wf)(hm:∀m∈ms,m.wf)(Q:Exit->St->Prop)(o:State×Nat×Option Int)
    (bS:∀u,o=(u,ms.length,none)->∀fr hp nx,look fr 2=.pv (.slice (ms.map bF))->look fr 6=.ptr 2 0 0->look fr 9=.ptr 3 0 0->ah hp 2=.var [.bu,.pv (.int .i64 0),.pv (.int .i64 0)]->ah hp 3=.var [.pv (.slice (u.pods.map aJ)),.pv (.int .i64 u.pre),.pv (.int .i64 u.eW)]->Q (.exit 0) ⟨fr,hp,nx⟩)
    (dI:∀u k c,o=(u,k,some c)->∀fr hp nx,look fr 6=.ptr 2 0 0->look fr 7=.pv (.int .i64 (k:Nat))->look fr 8=.pv (.int .i64 c)->ah hp 2=.var [.pv (.slice (u.pods.map aJ)),.pv (.int .i64 u.pre),.pv (.int .i64 u.eW)]->Q .ret ⟨fr,hp,nx⟩) :
    ∀(rest:List Move) (i:Nat) (t:State),ms.drop i=rest->i<=ms.length->cA s x rest t i=o->t.pods.length<=2^29->(∀p∈t.pods,p.wf)->∀(fr:List (Nat×AV)) (hp:Hl) (nx:Nat),4<=nx ->
     look fr 2=.pv (.slice (ms.map bF))->look fr 3=.ptr 0 0 0->look fr 4=.ptr 1 0 0->look fr 6=.ptr 2 0 0->look fr 9=.ptr 3 0 0 ->
     ah hp 0=.var [.pv (.slice (s.nodes.map bB)),.pv (.slice (s.aU.map bN)),.pv (.slice (s.pods.map aJ))]->ah hp 1=.var [.pv (.slice (x.aZ.map cg)),.pv (.int .i64 x.pre),.pv (.int .i64 x.eW)] ->
     ah hp 2=.var [.bu,.pv (.int .i64 0),.pv (.int .i64 0)]->ah hp 3=.var [.pv (.slice (t.pods.map aJ)),.pv (.int .i64 t.pre),.pv (.int .i64 t.eW)] ->
     look fr 12=.pv (.int .i64 i)->Wp T false (.loop um) ⟨fr,hp,nx⟩ Q:=by
 intro rest;induction rest with
 |nil =>
  intro i t hd hi ho hl ht fr hp nx gR h2 h3 h4 h6 h9 b0 b1 b2 b3 kD;have hlen:=drop_nil hd hi;simp only[cA]at ho;rw[ay,aY um.eq_1];simp only[ae,ag,aa,simprocAttr,-Int.reduceAdd,List.drop,List.take,h2,kD,hlen,aR];refine bS t (by rw[<-ho,hlen]) _ _ _ ?_ ?_ ?_ b2 b3
  all_goals try simp only[aj,Nat.reduceEqDiff,h2,h6,h9]
 |cons m r ih =>
  intro i t hd hi ho hl ht fr hp nx gR h2 h3 h4 h6 h9 b0 b1 b2 b3 kD;obtain⟨aK,hlt,hw,di,cS,hb⟩:=drop_cons hd (by omega);have Tl:m∈ms:=dH aK;have n0:¬nx=0:=by omega
  have n1:¬nx=1:=by omega
  have n2:¬nx=2:=by omega
  have n3:¬nx=3:=by omega
  have m0:¬0=nx:=by omega
  have m1:¬1=nx:=by omega
  have m2:¬2=nx:=by omega
  have m3:¬3=nx:=by omega
  have k:=GU S s x t m (AA t m hl) hn mJ hl hx ht (hm m Tl);simp only[cA]at ho;cases Qm:nS s x t m with
  |inl c =>
   have hc:=A8 s x t m c Qm;have Lw:¬c=0:=by unfold lN at hc;omega
   rw[Qm]at ho k;simp only[cR,dZ,aD,bd,ar,du,bF,az]at k;rw[ay,aY um.eq_1];simp only[ae,ag,aa,simprocAttr,-Int.reduceAdd,List.drop,List.take,h2,h3,h4,h6,h9,b0,b1,b2,b3,kD,hlt];refine gA (ps:=[(0,11),(1,11),(2,11),(5,11),(6,11)]) rfl ?_;simp only[ae,ag,aa,simprocAttr,-Int.reduceAdd,List.drop,List.take,h2,h3,h4,h6,h9,b0,b1,b2,b3,kD,aK,bF,n0,n1,n2,n3,k.ik];refine⟨by simp only[iu,rL,lJ,fo,mem,keys,ix,cw,cp,cy,aE,aG,ae,ag,aa,simprocAttr,-Int.reduceAdd,List.drop,List.take,h3,h4,h9,n0,n1,n3,m0,m1,m3,bw,bh],?_⟩;simp only[ae,ag,aa,simprocAttr,-Int.reduceAdd,List.drop,List.take,h2,h3,h4,h6,h9,b0,b1,b2,b3,kD,n0,n1,n2,n3,Lw];refine dI t i c ho.symm _ _ _ ?_ ?_ ?_ ?_
   all_goals try simp only[aj,Nat.reduceEqDiff,h6]
  |inr u =>
   rw[Qm]at ho k;obtain⟨P5,_⟩:=ot Qm;have Tr:=(lu s x t u m P5).2;simp only[cR,aD,bd,ar,du,bF]at k;rw[ay,aY um.eq_1];simp only[ae,ag,aa,simprocAttr,-Int.reduceAdd,List.drop,List.take,h2,h3,h4,h6,h9,b0,b1,b2,b3,kD,hlt];refine gA (ps:=[(0,11),(1,11),(2,11),(5,11),(6,11)]) rfl ?_;simp only[ae,ag,aa,simprocAttr,-Int.reduceAdd,List.drop,List.take,h2,h3,h4,h6,h9,b0,b1,b2,b3,kD,aK,bF,n0,n1,n2,n3,k.ik];refine⟨by simp only[iu,rL,lJ,fo,mem,keys,ix,cw,cp,cy,aE,aG,ae,ag,aa,simprocAttr,-Int.reduceAdd,List.drop,List.take,h3,h4,h9,n0,n1,n3,m0,m1,m3,bw,bh],?_⟩;simp only[ae,ag,aa,simprocAttr,-Int.reduceAdd,List.drop,List.take,h2,h3,h4,h6,h9,b0,b1,b2,b3,kD,n0,n1,n2,n3,hw];refine ih (i+1) u di cS ho (by omega) (qZ hx ht (hm m Tl) P5) _ _ _ (by omega) ?_ ?_ ?_ ?_ ?_ ?_ ?_ ?_ ?_ ?_
   all_goals try simp only[aj,Nat.reduceEqDiff,h2,h3,h4,h6,h9,b0,b1,b2,n0,n1,n2,n3,m0,m1,m2,m3]
set_option maxRecDepth 100000 in
set_option maxHeartbeats 4000000 in
theorem IG(S:Lg T)(s:bc)(x:Spec)(ms:List Move)(AA:∀t m,t.pods.length<=2^29->ba T 166 [aD s,bd x,ar t,du m] (cR (bJ s x t m)))(hn:s.nodes.length<=2^28)(mJ:s.aU.length<=2^29)(Bw:s.pods.length<=2^29)(NC:ms.length<=2^29)(hs:s.wf)(hx:x.wf)(hm:∀m∈ms,m.wf) :
    ba T 183 [aD s,bd x,.slice (ms.map bF)] (vH (Ea s x ms)):=by
 have k1:=uC S.Hh s (by omega);have kw:=zx S.d.w s x (bR s) hn mJ Bw hs.2.2;simp only[aD,bd,ar]at k1 kw;refine gives S.Om rfl ?_;unfold Ea;rcases mT s x (bR s)with⟨h1,h2⟩|⟨h1,h2,h3⟩
 ·rw[h2]at kw;rw[h1];simp only[bA];simp only[f183,ae,ag,aa,simprocAttr,-Int.reduceAdd,List.drop,List.take,aD,bd,ar,k1.call,kw.call];refine D1 S.d s x ms AA hn mJ NC hx.1 hm _ (cA s x ms (bR s) 0) (fun u ho fr hp nx h2 h6 h9 b2 b3=>?_) (fun u k c ho fr hp nx h6 h7 h8 b2=>?_) ms 0 (bR s) rfl (aN _) rfl Bw hs.2.2 _ _ _ (ax _) rfl rfl rfl rfl rfl rfl rfl rfl rfl rfl
  ·rw[ho];simp only[ae,ag,aa,simprocAttr,-Int.reduceAdd,List.drop,List.take,h2,h6,h9,b2,b3,vH,ar,N7]
  ·rw[ho];simp only[ae,ag,aa,simprocAttr,-Int.reduceAdd,List.drop,List.take,h6,h7,h8,b2,vH,ar,N7]
 ·rw[h2]at kw h3;rw[h1];simp only[bK,aI];simp only[f183,ae,ag,aa,simprocAttr,-Int.reduceAdd,List.drop,List.take,aD,bd,ar,k1.call,kw.call,h3,vH,dZ,az]
  all_goals rfl
end
end
section
def nW(l:List Int):List Int:=l.foldl (fun a n=>rk n a) []
theorem AD(x:Int):∀(l a:List Int),x∈l.foldl (fun a n=>rk n a) a↔x∈a\/x∈l
 |[],a=>by simp
 |n::r,a=>by
  rw[gL,AD x r,Ia,aS];constructor
  ·rintro((h|h)|h)
   ·exact .inl h
   ·exact .inr (.inl h)
   ·exact .inr (.inr h)
  ·rintro(h|h|h)
   ·exact .inl (.inl h)
   ·exact .inl (.inr h)
   ·exact .inr h
theorem AE(x:Int)(l:List Int):x∈nW l↔x∈l:=by
 unfold nW;rw[AD];simp
theorem DN:∀(l a:List Int),(l.foldl (fun a n=>rk n a) a).length<=a.length+l.length
 |[],a=>by simp
 |n::r,a=>by
  have h1:=DN r (rk n a);have h2:=zh n a;rw[gL,aC];omega
theorem tx(l:List Int):(nW l).length<=l.length:=by
 have:=DN l [];simpa[nW]using this
def zB(v:AV)(l:List Int):Prop:=(l=[]/\v=.bu)\/v=.pv (.slice (l.map cF))
theorem zB.len{v:AV}{l:List Int}(h:zB v l)(H:Hp):aO H v=some l.length:=by
 rcases h with⟨rfl,rfl⟩|rfl
 ·rfl
 ·simp only[aO,al]
theorem zB.get{v:AV}{l:List Int}{i:Nat}{q:Int}(h:zB v l)(hq:l[i]? =some q):v=.pv (.slice (l.map cF)):=by
 rcases h with⟨rfl,rfl⟩|h
 ·simp at hq
 ·exact h
theorem zB.pure{v:AV}{l:List Int}(h:zB v l)(p:PV):cd [v,.pv p]=some [.slice (l.map cF),p]:=by
 rcases h with⟨rfl,rfl⟩|rfl <;>rfl
def mi(s:bc)(x:Spec)(t:State):List (Move×State):=outs s x t (lP (nW (t.pods.map dx.id)) (nW (s.nodes.map Node.id)))
theorem tO{s:bc}{x:Spec}{t u:State}{m:Move}:(m,u)∈mi s x t↔nS s x t m=.inr u:=by
 unfold mi outs;rw[List.mem_filterMap];constructor
 ·rintro⟨m',_,h⟩
  exact(pn.1 h).2
 ·intro h;refine⟨m,?_,pn.2 ⟨rfl,h⟩⟩;have:=qy h;simp only[sF,lP,ct,zz,cC,jx]at this;simp only[lP,ct,zz,cC,AE];exact this
section
variable{T:cL}
set_option maxRecDepth 100000 in
set_option maxHeartbeats 16000000 in
theorem KT(Au:Std T 189 f189)(t:State)(hl:t.pods.length<=2^28){fr0:List (Nat×AV)}{hp:Hl}{nx:Nat}(b2:ah hp 2=.var [.pv (.slice (t.pods.map aJ)),.pv (.int .i64 t.pre),.pv (.int .i64 t.eW)])(Q:Exit->St->Prop)
    (bS:∀fr,Kp [3,4,5,9] fr0 fr->zB (look fr 8) (nW (t.pods.map dx.id))->Q (.exit 0) ⟨fr,hp,nx⟩) :
    ∀(rest:List dx) (i:Nat) (acc:List Int),t.pods.drop i=rest->i<=t.pods.length->(rest.map dx.id).foldl (fun a n=>rk n a) acc=nW (t.pods.map dx.id)->acc.length<=i->∀(fr:List (Nat×AV)),Kp [3,4,5,9] fr0 fr->look fr 5=.ptr 2 0 0->look fr 10=.pv (.int .i64 i)->zB (look fr 8) acc->Wp T false (.loop yk) ⟨fr,hp,nx⟩ Q:=by
 intro rest;induction rest with
 |nil =>
  intro i acc hd hi ho ha fr hK g5 yM h8;have hlen:=drop_nil hd hi;simp only[az,List.foldl_nil]at ho;subst ho;rw[ay,aY yk.eq_1];simp only[rL',aa,simprocAttr,g5,b2,yM,hlen,aR,al];refine bS _ ?_ ?_
  ·repeat (refine Kp.put (by decide) ?_)
   exact hK
  ·simp only[aj,Nat.reduceEqDiff];exact h8
 |cons p r ih =>
  intro i acc hd hi ho ha fr hK g5 yM h8;obtain⟨aK,hlt,hw,di,cS,hb⟩:=drop_cons hd (by omega);have k:=Ba Au acc p.id (by omega);have DM:=h8.pure (.int .i64 p.id);generalize RG:look fr 8=v8 at h8 DM;obtain⟨hr,wS,oo,hc⟩:=k;rw[ay,aY yk.eq_1];simp only[rL',aa,simprocAttr,g5,b2,yM,hlt,aK,aJ,RG];rw[la hr DM hc,wS,rj];simp only[rL',aa,simprocAttr,yM,hw];refine ih (i+1) (rk p.id acc) di cS (by rw[<-ho];rfl) (by have:=zh p.id acc;omega) _ ?_ ?_ ?_ ?_
  ·repeat (refine Kp.put (by decide) ?_)
   exact hK
  ·all_goals try simp only[aj,Nat.reduceEqDiff,g5]
  ·all_goals try simp only[aj,Nat.reduceEqDiff,]
  ·simp only[aj,Nat.reduceEqDiff];exact .inr rfl
set_option maxRecDepth 100000 in
set_option maxHeartbeats 16000000 in
theorem KU(Au:Std T 189 f189)(s:bc)(hl:s.nodes.length<=2^28){fr0:List (Nat×AV)}{hp:Hl}{nx:Nat}(b0:ah hp 0=.var [.pv (.slice (s.nodes.map bB)),.pv (.slice (s.aU.map bN)),.pv (.slice (s.pods.map aJ))])(Q:Exit->St->Prop)
    (bS:∀fr,Kp [3,4,5,8] fr0 fr->zB (look fr 9) (nW (s.nodes.map Node.id))->Q (.exit 2) ⟨fr,hp,nx⟩) :
    ∀(rest:List Node) (i:Nat) (acc:List Int),s.nodes.drop i=rest->i<=s.nodes.length->(rest.map Node.id).foldl (fun a n=>rk n a) acc=nW (s.nodes.map Node.id)->acc.length<=i->∀(fr:List (Nat×AV)),Kp [3,4,5,8] fr0 fr->look fr 3=.ptr 0 0 0->look fr 11=.pv (.int .i64 i)->zB (look fr 9) acc->Wp T false (.loop yl) ⟨fr,hp,nx⟩ Q:=by
 intro rest;induction rest with
 |nil =>
  intro i acc hd hi ho ha fr hK g5 yM h8;have hlen:=drop_nil hd hi;simp only[az,List.foldl_nil]at ho;subst ho;rw[ay,aY yl.eq_1];simp only[rL',aa,simprocAttr,g5,b0,yM,hlen,aR,al];refine bS _ ?_ ?_
  ·repeat (refine Kp.put (by decide) ?_)
   exact hK
  ·simp only[aj,Nat.reduceEqDiff];exact h8
 |cons p r ih =>
  intro i acc hd hi ho ha fr hK g5 yM h8;obtain⟨aK,hlt,hw,di,cS,hb⟩:=drop_cons hd (by omega);have k:=Ba Au acc p.id (by omega);have DM:=h8.pure (.int .i64 p.id);generalize RG:look fr 9=v8 at h8 DM;obtain⟨hr,wS,oo,hc⟩:=k;rw[ay,aY yl.eq_1];simp only[rL',aa,simprocAttr,g5,b0,yM,hlt,aK,bB,RG];rw[la hr DM hc,wS,rj];simp only[rL',aa,simprocAttr,yM,hw];refine ih (i+1) (rk p.id acc) di cS (by rw[<-ho];rfl) (by have:=zh p.id acc;omega) _ ?_ ?_ ?_ ?_
  ·repeat (refine Kp.put (by decide) ?_)
   exact hK
  ·all_goals try simp only[aj,Nat.reduceEqDiff,g5]
  ·all_goals try simp only[aj,Nat.reduceEqDiff,]
  ·simp only[aj,Nat.reduceEqDiff];exact .inr rfl
section
variable{a8 a9:AV}{pods nodes:List Int}{fin:List Move}{hp0:Hl}{Q:Exit->St->Prop}
set_option maxRecDepth 100000 in
set_option maxHeartbeats 16000000 in
theorem KV{p n:Int}{jp jn:Nat}(mK:pods.length<=2^29)(pW:fin.length<=2^29)(h8:zB a8 pods)(h9:zB a9 nodes)(OX:pods[jp]? =some p)(Th:nodes[jn]? =some n){fr0:List (Nat×AV)}(g8:look fr0 8=a8)(g9:look fr0 9=a9)(pg:look fr0 14=.pv (.int .i64 jp))(te:look fr0 15=.pv (.int .i64 jn))
    (bS:∀fr hp nx,Kp [3,4,5,8,9,13,14,15] fr0 fr->3<=nx->fk (look fr 12) hp 4 (fin.map bF) 3 nx->(∀k,k<3->ah hp k=ah hp0 k)->Q (.exit 10) ⟨fr,hp,nx⟩) :
    ∀(rest:List Int) (i:Nat) (pre:List Move),pods.drop i=rest->i<=pods.length->pre++rest.map (fun q=>(⟨4,p,n,q⟩:Move))=fin->∀(fr:List (Nat×AV)) (hp:Hl) (nx:Nat),Kp [3,4,5,8,9,13,14,15] fr0 fr ->
     look fr 16=.pv (.int .i64 i)->3<=nx->fk (look fr 12) hp 4 (pre.map bF) 3 nx->(∀k,k<3->ah hp k=ah hp0 k)->Wp T false (.loop ym) ⟨fr,hp,nx⟩ Q:=by
 intro rest;induction rest with
 |nil =>
  intro i pre hd hi ho fr hp nx hK tv h3 hO hs;have hlen:=drop_nil hd hi;simp only[az,bH]at ho;subst ho;have c8:=(hK 8 (by decide)).trans g8;have l8:=h8.len (ah hp);rw[ay,aY ym.eq_1];simp only[rL',aa,simprocAttr,c8,l8,tv,hlen,aR];refine bS _ _ _ ?_ h3 ?_ hs
  ·repeat (refine Kp.put (by decide) ?_)
   exact hK
  ·simp only[aj,Nat.reduceEqDiff];exact hO
 |cons q r ih =>
  intro i pre hd hi ho fr hp nx hK tv h3 hO hs;obtain⟨aK,hlt,hw,di,cS,hb⟩:=drop_cons hd (by omega);have e8:=h8.get aK;have e9:=h9.get Th;have c8:=((hK 8 (by decide)).trans g8).trans e8;have c9:=((hK 9 (by decide)).trans g9).trans e9;have BP:=(hK 14 (by decide)).trans pg;have TX:=(hK 15 (by decide)).trans te;have lj:pre.length+1<=2^30:=by have:=de List.length ho;rw[aM]at this;omega
  obtain⟨v',W,k,a1,a2,a3⟩:=hO.mj h3 (bF ⟨4,p,n,q⟩) (by rw[al];exact lj);simp only[bF]at a1 a3;generalize kD:look fr 12=NK at hO a1;rw[ay,aY ym.eq_1];simp only[rL',aa,simprocAttr,c8,tv,hlt,al];refine(cz rfl).2 ?_;simp only[rL',aa,simprocAttr,c8,c9,BP,TX,tv,aK,OX,Th,cF,kD,bt,chunk,cq,bL,bW,dW,a1,hw];refine ih (i+1) (pre++[⟨4,p,n,q⟩]) di cS (by rw[<-ho];simp) _ _ _ ?_ ?_ (by omega) ?_ (fun k hk=>?_)
  ·repeat (refine Kp.put (by decide) ?_)
   exact hK
  ·all_goals try simp only[aj,Nat.reduceEqDiff,]
  ·simp only[aj,Nat.reduceEqDiff];simpa only[bj,aX,az,bF]using a3
  ·exact(a2 k hk).trans (hs k hk)
set_option maxRecDepth 100000 in
set_option maxHeartbeats 16000000 in
theorem KW{kind p:Int}{jp:Nat}(mK:pods.length<=2^29)(nr:nodes.length<=2^29)(pW:fin.length<=2^29)(h8:zB a8 pods)(h9:zB a9 nodes)(OX:pods[jp]? =some p){fr0:List (Nat×AV)}(g8:look fr0 8=a8)(g9:look fr0 9=a9)(pf:look fr0 13=.pv (.int .i64 kind))(pg:look fr0 14=.pv (.int .i64 jp))
    (bS:∀fr hp nx,Kp [3,4,5,8,9,13,14] fr0 fr->3<=nx->fk (look fr 12) hp 4 (fin.map bF) 3 nx->(∀k,k<3->ah hp k=ah hp0 k)->Q (.exit 8) ⟨fr,hp,nx⟩) :
    ∀(rest:List Int) (i:Nat) (pre:List Move),nodes.drop i=rest->i<=nodes.length->pre++rest.flatMap (fun n=>gw kind p n pods)=fin->∀(fr:List (Nat×AV)) (hp:Hl) (nx:Nat),Kp [3,4,5,8,9,13,14] fr0 fr ->
     look fr 15=.pv (.int .i64 i)->3<=nx->fk (look fr 12) hp 4 (pre.map bF) 3 nx->(∀k,k<3->ah hp k=ah hp0 k)->Wp T false (.loop uo) ⟨fr,hp,nx⟩ Q:=by
 intro rest;induction rest with
 |nil =>
  intro i pre hd hi ho fr hp nx hK te h3 hO hs;have hlen:=drop_nil hd hi;simp only[NQ,bH]at ho;subst ho;have c9:=(hK 9 (by decide)).trans g9;have l9:=h9.len (ah hp);rw[ay,aY uo.eq_1];simp only[rL',aa,simprocAttr,c9,l9,te,hlen,aR];refine bS _ _ _ ?_ h3 ?_ hs
  ·repeat (refine Kp.put (by decide) ?_)
   exact hK
  ·simp only[aj,Nat.reduceEqDiff];exact hO
 |cons n r ih =>
  intro i pre hd hi ho fr hp nx hK te h3 hO hs;obtain⟨aK,hlt,hw,di,cS,hb⟩:=drop_cons hd (by omega);have e8:=h8.get OX;have e9:=h9.get aK;have d8:=(hK 8 (by decide)).trans g8;have c8:=d8.trans e8;have d9:=(hK 9 (by decide)).trans g9;have c9:=d9.trans e9;have tp:=(hK 13 (by decide)).trans pf;have BP:=(hK 14 (by decide)).trans pg;rw[iy,<-gn]at ho;have lj:(pre++gw kind p n pods).length<=2^29:=by have:=de List.length ho;rw[aM]at this;omega
  by_cases h4:kind=4
  ·have Ca:gw kind p n pods=pods.map fun q=>(⟨4,p,n,q⟩:Move):=by unfold gw;rw[aW h4,h4]
   rw[h4]at tp;rw[ay,aY uo.eq_1];simp only[rL',aa,simprocAttr,c9,te,hlt,al,tp];refine KV (hp0:=hp0) (pods:=pods) (nodes:=nodes) (fin:=pre++gw kind p n pods) mK lj h8 h9 OX aK (fr0:=_) ?_ ?_ ?_ ?_ (fun fE hp' cE k1 Kb Ny qT=>?_) pods 0 pre rfl (aN _) (by rw[Ca]) _ _ _ (fun _ _=>rfl) ?_ h3 ?_ hs
   ·all_goals try simp only[aj,Nat.reduceEqDiff,d8]
   ·all_goals try simp only[aj,Nat.reduceEqDiff,d9]
   ·all_goals try simp only[aj,Nat.reduceEqDiff,BP]
   ·all_goals try simp only[aj,Nat.reduceEqDiff,te]
   ·have Ku:=k1 15 (by decide);simp only[aj,Nat.reduceEqDiff,te]at Ku;simp only[rL',aa,simprocAttr,Ku,hw];refine ih (i+1) _ di cS ho _ _ _ ?_ ?_ Kb ?_ qT
    ·repeat (refine Kp.put (by decide) ?_)
     refine Kp.trans ?_ k1 (by decide)
     repeat (refine Kp.put (by decide) ?_)
     exact hK
    ·all_goals try simp only[aj,Nat.reduceEqDiff,]
    ·simp only[aj,Nat.reduceEqDiff];exact Ny
   ·all_goals try simp only[aj,Nat.reduceEqDiff,]
    rfl
   ·simp only[aj,Nat.reduceEqDiff];exact hO
  ·have Ca:gw kind p n pods=[⟨kind,p,n,0⟩]:=by unfold gw;rw[aw h4]
   rw[Ca]at ho lj;have uN:pre.length+1<=2^30:=by rw[aM,aC,bU]at lj;omega
   obtain⟨v',W,k,a1,a2,a3⟩:=hO.mj h3 (bF ⟨kind,p,n,0⟩) (by rw[al];exact uN);simp only[bF]at a1 a3;generalize kD:look fr 12=NK at hO a1;rw[ay,aY uo.eq_1];simp only[rL',aa,simprocAttr,c9,te,hlt,al,tp,h4];refine(cz rfl).2 ?_;simp only[rL',aa,simprocAttr,c8,c9,tp,BP,te,aK,OX,cF,kD,bt,chunk,cq,bL,bW,dW,a1,hw];refine ih (i+1) (pre++[⟨kind,p,n,0⟩]) di cS ho _ _ _ ?_ ?_ (by omega) ?_ (fun k hk=>?_)
   ·repeat (refine Kp.put (by decide) ?_)
    exact hK
   ·all_goals try simp only[aj,Nat.reduceEqDiff,]
   ·simp only[aj,Nat.reduceEqDiff];simpa only[bj,aX,az,bF]using a3
   ·exact(a2 k hk).trans (hs k hk)
set_option maxRecDepth 100000 in
set_option maxHeartbeats 16000000 in
theorem KX{kind:Int}(mK:pods.length<=2^29)(nr:nodes.length<=2^29)(pW:fin.length<=2^29)(h8:zB a8 pods)(h9:zB a9 nodes){fr0:List (Nat×AV)}(g8:look fr0 8=a8)(g9:look fr0 9=a9)(pf:look fr0 13=.pv (.int .i64 kind))
    (bS:∀fr hp nx,Kp [3,4,5,8,9,13] fr0 fr->3<=nx->fk (look fr 12) hp 4 (fin.map bF) 3 nx->(∀k,k<3->ah hp k=ah hp0 k)->Q (.exit 6) ⟨fr,hp,nx⟩) :
    ∀(rest:List Int) (i:Nat) (pre:List Move),pods.drop i=rest->i<=pods.length->pre++rest.flatMap (fun p=>oS kind p pods nodes)=fin->∀(fr:List (Nat×AV)) (hp:Hl) (nx:Nat),Kp [3,4,5,8,9,13] fr0 fr ->
     look fr 14=.pv (.int .i64 i)->3<=nx->fk (look fr 12) hp 4 (pre.map bF) 3 nx->(∀k,k<3->ah hp k=ah hp0 k)->Wp T false (.loop ur) ⟨fr,hp,nx⟩ Q:=by
 intro rest;induction rest with
 |nil =>
  intro i pre hd hi ho fr hp nx hK pg h3 hO hs;have hlen:=drop_nil hd hi;simp only[NQ,bH]at ho;subst ho;have c8:=(hK 8 (by decide)).trans g8;have l8:=h8.len (ah hp);rw[ay,aY ur.eq_1];simp only[rL',aa,simprocAttr,c8,l8,pg,hlen,aR];refine bS _ _ _ ?_ h3 ?_ hs
  ·repeat (refine Kp.put (by decide) ?_)
   exact hK
  ·simp only[aj,Nat.reduceEqDiff];exact hO
 |cons p r ih =>
  intro i pre hd hi ho fr hp nx hK pg h3 hO hs;obtain⟨aK,hlt,hw,di,cS,hb⟩:=drop_cons hd (by omega);have e8:=h8.get aK;have d8:=(hK 8 (by decide)).trans g8;have c8:=d8.trans e8;have d9:=(hK 9 (by decide)).trans g9;have tp:=(hK 13 (by decide)).trans pf;rw[iy,<-gn]at ho;have lj:(pre++oS kind p pods nodes).length<=2^29:=by have:=de List.length ho;rw[aM]at this;omega
  by_cases k2:kind=2
  ·have Ca:oS kind p pods nodes=[⟨2,p,0,0⟩]:=by unfold oS;rw[aW k2,k2]
   rw[Ca]at ho lj;have uN:pre.length+1<=2^30:=by rw[aM,aC,bU]at lj;omega
   obtain⟨v',W,k,a1,a2,a3⟩:=hO.mj h3 (bF ⟨2,p,0,0⟩) (by rw[al];exact uN);simp only[bF]at a1 a3;generalize kD:look fr 12=NK at hO a1;rw[k2]at tp;rw[ay,aY ur.eq_1];simp only[rL',aa,simprocAttr,c8,pg,hlt,al,tp,aK,cF,kD,bt,chunk,cq,bL,bW,dW,a1,hw];refine ih (i+1) (pre++[⟨2,p,0,0⟩]) di cS ho _ _ _ ?_ ?_ (by omega) ?_ (fun k hk=>?_)
   ·repeat (refine Kp.put (by decide) ?_)
    exact hK
   ·all_goals try simp only[aj,Nat.reduceEqDiff,]
   ·simp only[aj,Nat.reduceEqDiff];simpa only[bj,aX,az,bF]using a3
   ·exact(a2 k hk).trans (hs k hk)
  ·have Ca:oS kind p pods nodes=nodes.flatMap fun n=>gw kind p n pods:=by unfold oS;rw[aw k2]
   rw[ay,aY ur.eq_1];simp only[rL',aa,simprocAttr,c8,pg,hlt,al,tp,k2];refine KW (hp0:=hp0) (pods:=pods) (nodes:=nodes) (fin:=pre++oS kind p pods nodes) (kind:=kind) (p:=p) mK nr lj h8 h9 aK (fr0:=_) ?_ ?_ ?_ ?_ (fun fE hp' cE k1 Kb Ny qT=>?_) nodes 0 pre rfl (aN _) (by rw[Ca]) _ _ _ (fun _ _=>rfl) ?_ h3 ?_ hs
   ·all_goals try simp only[aj,Nat.reduceEqDiff,d8]
   ·all_goals try simp only[aj,Nat.reduceEqDiff,d9]
   ·all_goals try simp only[aj,Nat.reduceEqDiff,tp]
   ·all_goals try simp only[aj,Nat.reduceEqDiff,pg]
   ·have HK:=k1 14 (by decide);simp only[aj,Nat.reduceEqDiff,pg]at HK;simp only[rL',aa,simprocAttr,HK,hw];refine ih (i+1) _ di cS ho _ _ _ ?_ ?_ Kb ?_ qT
    ·repeat (refine Kp.put (by decide) ?_)
     refine Kp.trans ?_ k1 (by decide)
     repeat (refine Kp.put (by decide) ?_)
     exact hK
    ·all_goals try simp only[aj,Nat.reduceEqDiff,]
    ·simp only[aj,Nat.reduceEqDiff];exact Ny
   ·all_goals try simp only[aj,Nat.reduceEqDiff,]
    rfl
   ·simp only[aj,Nat.reduceEqDiff];exact hO
set_option maxRecDepth 100000 in
set_option maxHeartbeats 16000000 in
theorem KY(mK:pods.length<=2^29)(nr:nodes.length<=2^29)(pW:fin.length<=2^29)(h8:zB a8 pods)(h9:zB a9 nodes){fr0:List (Nat×AV)}(g8:look fr0 8=a8)(g9:look fr0 9=a9)
    (bS:∀fr hp nx,Kp [3,4,5] fr0 fr->3<=nx->fk (look fr 12) hp 4 (fin.map bF) 3 nx->(∀k,k<3->ah hp k=ah hp0 k)->Q (.exit 4) ⟨fr,hp,nx⟩) :
    ∀(n:Nat) (k:Int) (pre:List Move),1<=k->k+n=5->pre++nv pods nodes n k=fin->∀(fr:List (Nat×AV)) (hp:Hl) (nx:Nat),Kp [3,4,5,8,9] fr0 fr ->
     look fr 13=.pv (.int .i64 k)->3<=nx->fk (look fr 12) hp 4 (pre.map bF) 3 nx->(∀k,k<3->ah hp k=ah hp0 k)->Wp T false (.loop yn) ⟨fr,hp,nx⟩ Q:=by
 intro n;induction n with
 |zero =>
  intro k pre F4 hk ho fr hp nx hK pf h3 hO hs;simp only[nv,bH]at ho;subst ho;have hc:¬k<=4:=by omega
  rw[ay,aY yn.eq_1];simp only[rL',aa,simprocAttr,pf,hc];refine bS _ _ _ ?_ h3 ?_ hs
  ·repeat (refine Kp.put (by decide) ?_)
   exact fun i hi=>hK i (by revert hi;revert i;decide)
  ·simp only[aj,Nat.reduceEqDiff];exact hO
 |succ n ih =>
  intro k pre F4 hk ho fr hp nx hK pf h3 hO hs;have d8:=(hK 8 (by decide)).trans g8;have d9:=(hK 9 (by decide)).trans g9;have hc:k<=4:=by omega
  have hw:IntKind.i64.wrap (k+1)=k+1:=by rw[f9] <;>omega
  simp only[nv]at ho;rw[<-gn]at ho;have lj:(pre++CO pods nodes k).length<=2^29:=by have:=de List.length ho;rw[aM]at this;omega
  rw[ay,aY yn.eq_1];simp only[rL',aa,simprocAttr,pf,hc];refine KX (hp0:=hp0) (pods:=pods) (nodes:=nodes) (fin:=pre++CO pods nodes k) (kind:=k) mK nr lj h8 h9 (fr0:=_) ?_ ?_ ?_ (fun fE hp' cE k1 Kb Ny qT=>?_) pods 0 pre rfl (aN _) rfl _ _ _ (fun _ _=>rfl) ?_ h3 ?_ hs
  ·all_goals try simp only[aj,Nat.reduceEqDiff,d8]
  ·all_goals try simp only[aj,Nat.reduceEqDiff,d9]
  ·all_goals try simp only[aj,Nat.reduceEqDiff,pf]
  ·have Pw:=k1 13 (by decide);simp only[aj,Nat.reduceEqDiff,pf]at Pw;simp only[rL',aa,simprocAttr,Pw,hw];refine ih (k+1) _ (by omega) (by omega) ho _ _ _ ?_ ?_ Kb ?_ qT
   ·repeat (refine Kp.put (by decide) ?_)
    refine Kp.trans ?_ k1 (by decide)
    repeat (refine Kp.put (by decide) ?_)
    exact hK
   ·all_goals try simp only[aj,Nat.reduceEqDiff,]
   ·simp only[aj,Nat.reduceEqDiff];exact Ny
  ·all_goals try simp only[aj,Nat.reduceEqDiff,]
   rfl
  ·simp only[aj,Nat.reduceEqDiff];exact hO
end
theorem fx.snap{v:AV}{hp:Hl}{sz lo nx:Nat}{es:List (List PV)}(h:fx v hp sz es lo nx):dD (ah hp) v=some (.slice es):=by
 rcases h with⟨rfl,rfl⟩|⟨id,lI,a,b,⟨rfl,rfl⟩|⟨rfl,c⟩,d⟩
 ·rfl
 ·simp only[dD,dF,d]
 ·have hle:es.length<=lI.length:=by have:=de List.length c;rw[hZ]at this;omega
  have:Nat.ble (0+es.length) lI.length=true:=by rw[Nat.ble_eq];omega
  simp only[dD,dF,d,this,gH,c]
set_option maxRecDepth 100000 in
set_option maxHeartbeats 16000000 in
theorem KZ{s:bc}{x:Spec}{t:State}{ms:List Move}(kd:∀m∈ms,ba T 181 [aD s,bd x,ar t,du m] (cR (nS s x t m)))(VG:ms.length<=2^29){NK:AV}{lo:Nat}{hpS:Hl}(Hu:3<=lo)(hv:fk NK hpS 4 (ms.map bF) 3 lo){fr0:List (Nat×AV)}(g3:look fr0 3=.ptr 0 0 0)(g4:look fr0 4=.ptr 1 0 0)(g5:look fr0 5=.ptr 2 0 0)(nU:look fr0 12=NK)
    (b0:ah hpS 0=.var [.pv (.slice (s.nodes.map bB)),.pv (.slice (s.aU.map bN)),.pv (.slice (s.pods.map aJ))]) (b1:ah hpS 1=.var [.pv (.slice (x.aZ.map cg)),.pv (.int .i64 x.pre),.pv (.int .i64 x.eW)]) (b2:ah hpS 2=.var [.pv (.slice (t.pods.map aJ)),.pv (.int .i64 t.pre),.pv (.int .i64 t.eW)]) (Q:Exit->St->Prop)
    (bS:∀fr hp nx,fx (look fr 17) hp 4 ((outs s x t ms).map fun p=>bF p.1) lo nx->fx (look fr 18) hp 3 ((outs s x t ms).map fun p=>nN p.2) lo nx->Q (.exit 12) ⟨fr,hp,nx⟩) :
    ∀(rest:List Move) (i:Nat) (pre:List Move),ms.drop i=rest->i<=ms.length->pre++rest=ms->∀(fr:List (Nat×AV)) (hp:Hl) (nx:Nat),Kp [3,4,5,12] fr0 fr->look fr 19=.pv (.int .i64 i)->lo<=nx ->
     fx (look fr 17) hp 4 ((outs s x t pre).map fun p=>bF p.1) lo nx->fx (look fr 18) hp 3 ((outs s x t pre).map fun p=>nN p.2) lo nx->(∀k,k∈cw (look fr 17)->k∈cw (look fr 18)->False)->(∀k,k<lo->ah hp k=ah hpS k)->Wp T false (.loop uu) ⟨fr,hp,nx⟩ Q:=by
 intro rest;induction rest with
 |nil =>
  intro i pre hd hi ho fr hp nx hK DH hn Ok Hi wQ hs;have hlen:=drop_nil hd hi;simp only[bH]at ho;subst ho;have vM:=(hK 12 (by decide)).trans nU;have TL:=(hv.mono (hp':=hp) (fun k _ hk=>hs k hk) (ax _)).len;rw[al]at TL;rw[ay,aY uu.eq_1];simp only[rL',aa,simprocAttr,vM,TL,DH,hlen,aR];refine bS _ _ _ ?_ ?_
  ·simp only[aj,Nat.reduceEqDiff];exact Ok
  ·simp only[aj,Nat.reduceEqDiff];exact Hi
 |cons m r ih =>
  intro i pre hd hi ho fr hp nx hK DH hn Ok Hi wQ hs;obtain⟨aK,hlt,hw,di,cS,hb⟩:=drop_cons hd (by omega);have c3:=(hK 3 (by decide)).trans g3;have c4:=(hK 4 (by decide)).trans g4;have c5:=(hK 5 (by decide)).trans g5;have vM:=(hK 12 (by decide)).trans nU;obtain⟨id,rfl,i1,i2,i3⟩:∃id,NK=.ms id/\3<=id/\id<lo/\ah hpS id=.row 4 (ms.map bF):=by
   rcases hv with⟨h,_⟩|h
   ·have:ms=[]:=by simpa using h
    rw[this]at aK;simp at aK
   ·exact h
  have d0:=(hs 0 (by omega)).trans b0;have d1:=(hs 1 (by omega)).trans b1;have d2:=(hs 2 (by omega)).trans b2;have Np:=(hs id i2).trans i3;have n0:¬nx=0:=by omega
  have n1:¬nx=1:=by omega
  have n2:¬nx=2:=by omega
  have n3:¬nx=id:=by omega
  have n4:¬id=nx:=by omega
  have m0:¬0=nx:=by omega
  have m1:¬1=nx:=by omega
  have m2:¬2=nx:=by omega
  have k:=kd m (dH aK);have RV:i<ms.length:=(aA.1 aK).1;have Qo:(ms.map bF)[i]? =some (bF m):=by rw[fj,aK];rfl
  have Bw:pre.length+1<=2^29:=by have:=de List.length ho;rw[aM,aC]at this;omega
  simp only[bF]at Qo;cases OQ:nS s x t m with
  |inl e =>
   have he:=A8 s x t m e OQ;have he0:¬e=0:=by unfold lN at he;omega
   have Pa:outs s x t (pre++[m])=outs s x t pre:=by
    rw[mP];unfold ry;rw[OQ];simp
   rw[OQ]at k;simp only[cR,dZ,aD,bd,ar,du,bF,az]at k;rw[ay,aY uu.eq_1];simp only[rL',aa,simprocAttr,vM,Np,DH,hlt,al];refine gA (ps:=[(0,11),(1,11),(2,11),(5,11),(6,11)]) rfl ?_;simp only[rL',aa,simprocAttr,c3,c4,c5,vM,DH,d0,d1,d2,Np,Qo,RV,al,k.ik,n0,n1,n2,n3];refine⟨by simp only[iu,rL,lJ,fo,mem,keys,ix,cw,cp,cy,aE,aG,rL',aa,simprocAttr,c3,c4,c5,vM,n0,n1,n2,n3,n4,m0,m1,m2,bw,bh],?_⟩;simp only[rL',aa,simprocAttr,he0,DH,hw];refine ih (i+1) (pre++[m]) di cS (by rw[<-ho];simp) _ _ _ ?_ ?_ (by omega) ?_ ?_ ?_ (fun k hk=>?_)
   ·repeat (refine Kp.put (by decide) ?_)
    exact hK
   ·all_goals try simp only[aj,Nat.reduceEqDiff,]
   ·simp only[aj,Nat.reduceEqDiff];rw[Pa];exact Ok.mono (fun k _ hk _=>by have:¬nx=k:=(by omega);simp only[aF,this,aI]) (by omega)
   ·simp only[aj,Nat.reduceEqDiff];rw[Pa];exact Hi.mono (fun k _ hk _=>by have:¬nx=k:=(by omega);simp only[aF,this,aI]) (by omega)
   ·simp only[aj,Nat.reduceEqDiff];exact wQ
   ·have:¬nx=k:=by omega
    simp only[aF,this,aI];exact hs k hk
  |inr u =>
   have Pa:outs s x t (pre++[m])=outs s x t pre++[(m,u)]:=by
    rw[mP];unfold ry;rw[OQ];simp
   have S0:=rf s x t pre;rw[OQ]at k;simp only[cR,aD,bd,ar,du,bF]at k;have SB:fx (look fr 17) ((nx,.var [.pv (.slice (u.pods.map aJ)),.pv (.int .i64 u.pre),.pv (.int .i64 u.eW)])::(nx,.var [.bu,.pv (.int .i64 0),.pv (.int .i64 0)])::hp) 4 ((outs s x t pre).map fun p=>bF p.1) lo (nx+1):=Ok.mono (fun k _ hk _=>by have:¬nx=k:=(by omega);simp only[aF,this,aI]) (by omega);obtain⟨W,a1,a2,a3⟩:=SB.mj (by omega) (bF m) (by rw[al];omega);have Na:fx (look fr 18) (W++(nx+1,.row 4 [bF m])::(nx,.var [.pv (.slice (u.pods.map aJ)),.pv (.int .i64 u.pre),.pv (.int .i64 u.eW)])::(nx,.var [.bu,.pv (.int .i64 0),.pv (.int .i64 0)])::hp) 3 ((outs s x t pre).map fun p=>nN p.2) lo (nx+1+1+1):=Hi.mono (fun k _ hk hm=>by
    rw[a2 k (by omega) (fun h=>wQ k h hm)];have:¬nx=k:=by omega
    simp only[aF,this,aI]) (by omega)
   obtain⟨W2,e1,e2,e3⟩:=Na.mj (by omega) (nN u) (by rw[al];omega);have SJ:=Ok.low;have NL:=Hi.low;have an:=a2 nx (by omega) (fun h=>by have:=(SJ nx h).2;omega);have QR:=a2 id (by omega) (fun h=>by have:=(SJ id h).1;omega);simp only[bF,nN]at a1 a3 e1 an QR;simp only[aj,Nat.reduceEqDiff,n3,Np]at an QR;generalize Rj:look fr 17=VN at *;generalize Rp:look fr 18=qi at *;rw[ay,aY uu.eq_1];simp only[rL',aa,simprocAttr,vM,Np,DH,hlt,al];refine gA (ps:=[(0,11),(1,11),(2,11),(5,11),(6,11)]) rfl ?_;simp only[rL',aa,simprocAttr,c3,c4,c5,vM,DH,d0,d1,d2,Np,Qo,RV,al,k.ik,n0,n1,n2,n3];refine⟨by simp only[iu,rL,lJ,fo,mem,keys,ix,cw,cp,cy,aE,aG,rL',aa,simprocAttr,c3,c4,c5,vM,n0,n1,n2,n3,n4,m0,m1,m2,bw,bh],?_⟩;simp only[rL',aa,simprocAttr,DH,hw,Rj,Rp,vM,Np,n3,Qo,RV,al,bt,chunk,cq,bL,bW,dW,a1,an,QR,e1];refine ih (i+1) (pre++[m]) di cS (by rw[<-ho];simp) _ _ _ ?_ ?_ (by omega) ?_ ?_ ?_ (fun k hk=>?_)
   ·repeat (refine Kp.put (by decide) ?_)
    exact hK
   ·all_goals try simp only[aj,Nat.reduceEqDiff,]
   ·simp only[aj,Nat.reduceEqDiff];rw[Pa,bj];refine .inr ⟨nx+1+1,_,by omega,by omega,.inl ⟨rfl,rfl⟩,?_⟩;have:=e2 (nx+1+1) (by omega) (fun h=>by have:=(NL _ h).2;omega);simp only[bF,nN]at this;rw[this];exact a3
   ·simp only[aj,Nat.reduceEqDiff];rw[Pa,bj];exact .inr ⟨nx+1+1+1+1,_,by omega,by omega,.inl ⟨rfl,rfl⟩,e3⟩
   ·simp only[aj,Nat.reduceEqDiff];intro k h1 h2;simp[cw]at h1 h2;omega
   ·have:=e2 k (by omega) (fun h=>by have:=(NL _ h).1;omega);simp only[bF,nN]at this;rw[this];have:=a2 k (by omega) (fun h=>by have:=(SJ _ h).1;omega);simp only[bF]at this;rw[this];have:¬nx=k:=by omega
    simp only[aF,this,aI];exact hs k hk
set_option maxRecDepth 100000 in
set_option maxHeartbeats 16000000 in
theorem Jt(Rk:Std T 185 f185)(Au:Std T 189 f189){s:bc}{x:Spec}{t:State}(kd:∀m:Move,m.wf->ba T 181 [aD s,bd x,ar t,du m] (cR (nS s x t m)))(hs:s.wf)(ht:∀p∈t.pods,p.wf)(hn:s.nodes.length<=500)(AB:t.pods.length<=500) :
    ba T 185 [aD s,bd x,ar t] (.tuple [.slice ((mi s x t).map fun p=>bF p.1),.slice ((mi s x t).map fun p=>nN p.2)]):=by
 refine gives Rk rfl ?_;have lp:(nW (t.pods.map dx.id)).length<=500:=by have:=tx (t.pods.map dx.id);rw[al]at this;omega
 have ln:(nW (s.nodes.map Node.id)).length<=500:=by have:=tx (s.nodes.map Node.id);rw[al]at this;omega
 have lc:=oh _ _ lp ln;have hw:∀m∈lP (nW (t.pods.map dx.id)) (nW (s.nodes.map Node.id)),m.wf:=fun m hm=>by
  refine tq (s:=s) (t:=t) hs ht ?_;simp only[lP,ct,zz,cC,AE]at hm;simp only[sF,lP,ct,zz,cC,jx];exact hm
 simp only[f185,rL',aa,simprocAttr,aD,bd,ar];refine KT Au t (by omega) ?_ _ (fun JS k1 q8=>?_) t.pods 0 [] rfl (aN _) rfl (ax _) _ (fun _ _=>rfl) ?_ ?_ ?_
 ·simp only[aj,Nat.reduceEqDiff]
 ·have j3:=k1 3 (by decide);simp only[aj,Nat.reduceEqDiff]at j3;simp only[rL',aa,simprocAttr];refine KU Au s (by omega) ?_ _ (fun Nr k2 q9=>?_) s.nodes 0 [] rfl (aN _) rfl (ax _) _ (fun _ _=>rfl) ?_ ?_ ?_
  ·simp only[aj,Nat.reduceEqDiff]
  ·have i8:=k2 8 (by decide);simp only[aj,Nat.reduceEqDiff]at i8;rw[<-i8]at q8;simp only[rL',aa,simprocAttr];refine KY (hp0:=_) (by omega) (by omega) lc q8 q9 (fr0:=_) ?_ ?_ (fun Vv S3 TI k3 h3 hO S8=>?_) 4 1 [] (by decide) (by decide) (by rw[aE,uU]) _ _ _ (fun _ _=>rfl) ?_ (ax _) ?_ (fun _ _=>rfl)
   ·all_goals try simp only[aj,Nat.reduceEqDiff,]
   ·all_goals try simp only[aj,Nat.reduceEqDiff,]
   ·have j4:=k1 4 (by decide);have j5:=k1 5 (by decide);have l3:=k2 3 (by decide);have l4:=k2 4 (by decide);have l5:=k2 5 (by decide);have m3:=k3 3 (by decide);have m4:=k3 4 (by decide);have m5:=k3 5 (by decide);simp only[aj,Nat.reduceEqDiff]at j4 j5;simp only[aj,Nat.reduceEqDiff,j3,j4,j5]at l3 l4 l5;simp only[aj,Nat.reduceEqDiff,l3,l4,l5]at m3 m4 m5;have s0:=S8 0 (by decide);have s1:=S8 1 (by decide);have s2:=S8 2 (by decide);simp only[aj,Nat.reduceEqDiff]at s0 s1 s2;simp only[rL',aa,simprocAttr];refine KZ (s:=s) (x:=x) (t:=t) (ms:=lP (nW (t.pods.map dx.id)) (nW (s.nodes.map Node.id))) (fun m hm=>kd m (hw m hm)) lc h3 hO (hpS:=S3) (fr0:=_) ?_ ?_ ?_ ?_ s0 s1 s2 _ (fun fr hp nx SB Na=>?_) _ 0 [] rfl (aN _) rfl _ _ _ (fun _ _=>rfl) ?_ (ax _) ?_ ?_ ?_ (fun _ _=>rfl)
    ·all_goals try simp only[aj,Nat.reduceEqDiff,m3]
    ·all_goals try simp only[aj,Nat.reduceEqDiff,m4]
    ·all_goals try simp only[aj,Nat.reduceEqDiff,m5]
    ·all_goals try simp only[aj,Nat.reduceEqDiff,]
    ·simp only[rL',aa,simprocAttr,SB.snap,Na.snap];rfl
    ·all_goals try simp only[aj,Nat.reduceEqDiff,]
     rfl
    ·simp only[aj,Nat.reduceEqDiff];exact .inl ⟨rfl,rfl⟩
    ·simp only[aj,Nat.reduceEqDiff];exact .inl ⟨rfl,rfl⟩
    ·simp only[aj,Nat.reduceEqDiff];intro k h;simp[cw]at h
   ·all_goals try simp only[aj,Nat.reduceEqDiff,]
   ·simp only[aj,Nat.reduceEqDiff];exact fk.nil
  ·all_goals try simp only[aj,Nat.reduceEqDiff,j3]
  ·all_goals try simp only[aj,Nat.reduceEqDiff,]
   rfl
  ·have j9:=k1 9 (by decide);simp only[aj,Nat.reduceEqDiff]at j9;simp only[aj,Nat.reduceEqDiff,j9];exact .inl ⟨rfl,rfl⟩
 ·all_goals try simp only[aj,Nat.reduceEqDiff,]
 ·all_goals try simp only[aj,Nat.reduceEqDiff,]
  rfl
 ·simp only[aj,Nat.reduceEqDiff];exact .inl ⟨rfl,rfl⟩
end
end
def hasB(k:ByteArray):List ByteArray->Bool
 |[]=>false
 |a::r=>decide (a=k)||hasB k r
theorem Ax(k:ByteArray):∀M:List ByteArray,hasB k M=true↔k∈M
 |[]=>by simp[hasB]
 |a::r=>by
  simp only[hasB,ke,bO,Ax k r,aS];constructor
  ·rintro(h|h)
   ·exact .inl h.symm
   ·exact .inr h
  ·rintro(h|h)
   ·exact .inl h.symm
   ·exact .inr h
def Jc(most:Nat):List State->List ByteArray->List State->Option (List ByteArray×List State)
 |[],M,N=>some (M,N)
 |u::r,M,N=>if hasB (fO u) M=true then(if most<M.length then none else Jc most r M N)else(if most<M.length+1 then none else Jc most r (M++[fO u]) (N++[u]))
def wh(s:bc)(x:Spec)(most:Nat):List State->List ByteArray->List State->Option (List ByteArray×List State)
 |[],M,N=>some (M,N)
 |t::r,M,N=>match Jc most ((mi s x t).map Prod.snd) M N with
  |none=>none
  |some q=>wh s x most r q.1 q.2
def lC(s:bc)(x:Spec)(most:Nat):Nat->List State->List ByteArray->Bool×Bool
 |0,L,M=>if L.any (fun t=>dh x.aZ t.pods)=true then(true,true)else(false,true)
 |n+1,L,M=>if L.any (fun t=>dh x.aZ t.pods)=true then(true,true)else match wh s x most L M []with
  |none=>(false,false)
  |some q=>lC s x most n q.2 q.1
theorem Cf{most:Nat}:∀{us:List State} {M:List ByteArray} {N:List State} {q:List ByteArray×List State},Jc most us M N=some q->∃new,q.2=N++new/\q.1=M++new.map fO/\(∀u∈new,u∈us)/\∀u∈us,fO u∈q.1
 |[],M,N,q,h=>by
  simp only[Jc,ai]at h;subst h;exact⟨[],by simp,by simp,by simp,by simp⟩
 |u::r,M,N,q,h=>by
  unfold Jc at h;split at h
  ·rename_i hm;split at h
   ·simp at h
   ·obtain⟨new,h1,h2,h3,h4⟩:=Cf h;refine⟨new,h1,h2,fun v hv=>bf _ (h3 v hv),fun v hv=>?_⟩;rcases aS.1 hv with rfl|hv
    ·rw[h2];exact jo _ ((Ax _ _).1 hm)
    ·exact h4 v hv
  ·split at h
   ·simp at h
   ·obtain⟨new,h1,h2,h3,h4⟩:=Cf h;refine⟨u::new,by rw[h1];simp,by rw[h2];simp,fun v hv=>?_,fun v hv=>?_⟩
    ·rcases aS.1 hv with rfl|hv
     ·exact bM ..
     ·exact bf _ (h3 v hv)
    ·rcases aS.1 hv with rfl|hv
     ·rw[h2];simp
     ·exact h4 v hv
theorem z8{s:bc}{x:Spec}{most:Nat}:∀{L:List State} {M:List ByteArray} {N:List State} {q:List ByteArray×List State},wh s x most L M N=some q->∃new,q.2=N++new/\q.1=M++new.map fO/\(∀u∈new,∃t∈L,∃m,nS s x t m=.inr u)/\∀t∈L,∀m u,nS s x t m=.inr u->fO u∈q.1
 |[],M,N,q,h=>by
  simp only[wh,ai]at h;subst h;exact⟨[],by simp,by simp,by simp,by simp⟩
 |t::r,M,N,q,h=>by
  unfold wh at h;cases hi:Jc most ((mi s x t).map Prod.snd) M N with
  |none=>rw[hi]at h;simp at h
  |some p =>
   rw[hi]at h;obtain⟨n1,h1,h2,h3,h4⟩:=Cf hi;obtain⟨n2,e1,e2,e3,e4⟩:=z8 h;refine⟨n1++n2,by rw[e1,h1];simp,by rw[e2,h2];simp,fun u hu=>?_,fun t' ht m u hd=>?_⟩
   ·rcases ct.1 hu with hu|hu
    ·obtain⟨p',hp,rfl⟩:=cC.1 (h3 u hu);exact⟨t,bM ..,p'.1,tO.1 hp⟩
    ·obtain⟨t',ht,m,hd⟩:=e3 u hu;exact⟨t',bf _ ht,m,hd⟩
   ·rcases aS.1 ht with rfl|ht
    ·have:=h4 u (cC.2 ⟨(m,u),tO.2 hd,rfl⟩);rw[e2];exact jo _ this
    ·exact e4 t' ht m u hd
def Nn(s:bc)(x:Spec)(d:Nat)(t:State):Prop:=∃ms:List Move,ms.length<=d/\Wk s x ms t
theorem Wk.last{s:bc}{x:Spec}{ms:List Move}{m:Move}{u:State}(h:Wk s x (ms++[m]) u):∃t,Wk s x ms t/\nS s x t m=.inr u:=by
 have key:∀(ms:List Move) (t0:State) (i:Nat),cA s x (ms++[m]) t0 i=(u,i+(ms++[m]).length,none)->∃t,cA s x ms t0 i=(t,i+ms.length,none)/\nS s x t m=.inr u:=by
  intro ms;induction ms with
  |nil =>
   intro t0 i h;simp only[aE,cA]at h;cases hd:nS s x t0 m with
   |inl c=>rw[hd]at h;simp at h
   |inr v =>
    rw[hd]at h;simp only[b9]at h;exact⟨t0,rfl,by rw[<-h.1];exact hd⟩
  |cons a r ih =>
   intro t0 i h;simp only[aG,cA]at h⊢;cases hd:nS s x t0 a with
   |inl c=>rw[hd]at h;simp at h
   |inr v =>
    rw[hd]at h;dsimp only at h⊢;obtain⟨t,h1,h2⟩:=ih v (i+1) (by rw[h];simp only[aC];congr 2;omega);exact⟨t,by rw[h1];simp only[aC];congr 2;omega,h2⟩
 obtain⟨t,h1,h2⟩:=key ms (bR s) 0 (by rw[aQ];exact h);exact⟨t,by rw[aQ]at h1;exact h1,h2⟩
structure Bz(s:bc)(x:Spec)(d:Nat)(P L:List State)(M:List ByteArray):Prop where
 sub:∀t∈L,t∈P
 all:∀t,Nn s x d t->t∈P
 rs:∀t∈P,Rs s t/\Nn s x d t
 key:∀k,k∈M↔∃t∈P,fO t=k
 cl:∀t∈P,¬t∈L->¬dh x.aZ t.pods=true/\∀m u,nS s x t m=.inr u->u∈P
theorem Bz.step{s:bc}{x:Spec}{d most:Nat}{P L:List State}{M:List ByteArray}{q:List ByteArray×List State}(hs:s.wf)(hx:∀w∈x.aZ,w.wf)(I:Bz s x d P L M)(hg:∀t∈L,¬dh x.aZ t.pods=true)(h:wh s x most L M []=some q):∃P',Bz s x (d+1) P' q.2 q.1:=by
 obtain⟨new,h1,h2,h3,h4⟩:=z8 h;rw[aE]at h1;have Vi:∀u∈new,Rs s u/\Nn s x (d+1) u:=fun u hu=>by
  obtain⟨t,ht,m,hd⟩:=h3 u hu;obtain⟨r1,ms,r2,r3⟩:=I.rs t (I.sub t ht);exact⟨r1.step hs hx hd,ms++[m],by rw[aM];simp;omega,r3.snoc hd⟩
 have Tp:∀t∈P++new,Rs s t/\Nn s x (d+1) t:=fun t ht=>by
  rcases ct.1 ht with ht|ht
  ·obtain⟨r1,ms,r2,r3⟩:=I.rs t ht;exact⟨r1,ms,by omega,r3⟩
  ·exact Vi t ht
 have OZ:∀k,k∈q.1↔∃t∈P++new,fO t=k:=fun k=>by
  rw[h2,ct,I.key,cC];constructor
  ·rintro(⟨t,ht,e⟩|⟨t,ht,e⟩)
   ·exact⟨t,jo _ ht,e⟩
   ·exact⟨t,List.mem_append_right _ ht,e⟩
  ·rintro⟨t,ht,e⟩
   rcases ct.1 ht with ht|ht
   ·exact .inl ⟨t,ht,e⟩
   ·exact .inr ⟨t,ht,e⟩
 have LD:∀t∈P,∀m u,nS s x t m=.inr u->u∈P++new:=fun t ht m u hd=>by
  by_cases hL:t∈L
  ·obtain⟨w,hw,e⟩:=(OZ _).1 (h4 t hL m u hd);have r1:=(Tp w hw).1;have r2:=(I.rs t ht).1.step hs hx hd;rw[<-uT r1.1 r2.1 (by rw[r1.2,r2.2]) e];exact hw
  ·exact jo _ ((I.cl t ht hL).2 m u hd)
 refine⟨P++new,?_,?_,Tp,OZ,?_⟩
 ·intro t ht;rw[h1]at ht;exact List.mem_append_right _ ht
 ·rintro t ⟨ms,hl,hw⟩
  rcases List.eq_nil_or_concat ms with rfl|⟨a,m,rfl⟩
  ·exact jo _ (I.all t ⟨[],by simp,hw⟩)
  ·rw[List.concat_eq_append]at hl hw;obtain⟨t0,g1,g2⟩:=hw.last;exact LD t0 (I.all t0 ⟨a,by rw[aM]at hl;simp at hl;omega,g1⟩) m t g2
 ·intro t ht hn;rcases ct.1 ht with ht|ht
  ·refine⟨?_,LD t ht⟩;by_cases hL:t∈L
   ·exact hg t hL
   ·exact(I.cl t ht hL).1
  ·exact absurd (by rw[h1];exact ht) hn
theorem xf{s:bc}{x:Spec}{most:Nat}(hs:s.wf)(hx:∀w∈x.aZ,w.wf):∀{n d:Nat} {P L:List State} {M:List ByteArray},Bz s x d P L M->((lC s x most n L M).1=true->(lC s x most n L M).2=true/\∃t,Nn s x (d+n) t/\dh x.aZ t.pods=true)/\(lC s x most n L M=(false,true)->∀t,Nn s x (d+n) t->¬dh x.aZ t.pods=true)
 |0,d,P,L,M,I=>by
  unfold lC;by_cases hg:L.any (fun t=>dh x.aZ t.pods)=true
  ·rw[aW hg];rw[List.any_eq_true]at hg;obtain⟨t,ht,h⟩:=hg;exact⟨fun _=>⟨rfl,t,(I.rs t (I.sub t ht)).2,h⟩,fun h=>by simp at h⟩
  ·rw[aw hg];refine⟨fun h=>by simp at h,fun _ t ht h=>?_⟩;have hP:=I.all t ht;by_cases hL:t∈L
   ·exact hg (List.any_eq_true.2 ⟨t,hL,h⟩)
   ·exact(I.cl t hP hL).1 h
 |n+1,d,P,L,M,I=>by
  unfold lC;by_cases hg:L.any (fun t=>dh x.aZ t.pods)=true
  ·rw[aW hg];rw[List.any_eq_true]at hg;obtain⟨t,ht,h⟩:=hg;obtain⟨ms,h1,h2⟩:=(I.rs t (I.sub t ht)).2;exact⟨fun _=>⟨rfl,t,⟨ms,by omega,h2⟩,h⟩,fun h=>by simp at h⟩
  ·rw[aw hg];cases hl:wh s x most L M []with
   |none=>exact⟨fun h=>by simp at h,fun h=>by simp at h⟩
   |some q =>
    obtain⟨P',I'⟩:=I.step hs hx (fun t ht h=>hg (List.any_eq_true.2 ⟨t,ht,h⟩)) hl;have:=xf hs hx (n:=n) (most:=most) I';rw[show d+1+n=d+(n+1) by omega]at this;exact this
theorem Bz.first{s:bc}{x:Spec}(hs:s.wf):Bz s x 0 [bR s] [bR s] [fO (bR s)]:=by
 refine⟨fun t h=>h,?_,fun t ht=>?_,fun k=>?_,fun t h1 h2=>absurd h1 h2⟩
 ·rintro t ⟨ms,hl,hw⟩
  have:ms=[]:=cu (by omega);subst this;simp only[Wk,cA,b9]at hw;simp[hw.1]
 ·simp only[gN]at ht;subst ht;exact⟨Rs.first hs,[],by simp,rfl⟩
 ·simp only[gN,exists_eq_left];exact eq_comm

section
theorem Vk(a b:ByteArray):(a.toList==b.toList)=decide (a=b):=by
 by_cases h:a=b
 ·subst h;simp
 ·have:¬a.toList=b.toList:=fun e=>h (by
   rw[ByteArray.toList_eq,ByteArray.toList_eq]at e;cases a with|mk x=>cases b with|mk y =>
   congr 1
   exact Array.ext' e)
  rw[U2 h];simpa using this
def CX(k:ByteArray):List PV:=[.str k]
theorem fx.at{v:AV}{hp:Hl}{sz lo nx i:Nat}{es:List (List PV)}{e:List PV}(h:fx v hp sz es lo nx)(hg:es[i]? =some e):∃id lI,lo<=id/\id<nx/\cw v=[id]/\ah hp id=.row sz lI/\lI[i]? =some e/\i<lI.length/\kE (ah hp) sz (i:Nat) v=some (.ptr id i 0):=by
 have hi:=(aA.1 hg).1;rcases h with⟨rfl,_⟩|⟨id,lI,a,b,⟨rfl,rfl⟩|⟨rfl,c⟩,d⟩
 ·simp at hg
 ·refine⟨id,lI,a,b,rfl,d,hg,hi,?_⟩;simp[kE,d,hi]
 ·have hle:es.length<=lI.length:=by have:=de List.length c;rw[hZ]at this;omega
  have hg2:lI[i]? =some e:=by
   rw[<-c,mf,aW hi]at hg;exact hg
  refine⟨id,lI,a,b,rfl,d,hg2,by omega,?_⟩;simp[kE,d,hi]
section
variable{T:cL}
set_option maxRecDepth 100000 in
set_option maxHeartbeats 16000000 in
theorem KJ{M:List ByteArray}(hM:M.length<=2^29){nF:AV}{hp:Hl}{nx lo:Nat}(hv:fx nF hp 1 (M.map CX) lo nx){key:ByteArray}{fr0:List (Nat×AV)}(pg:look fr0 14=nF)(U6:look fr0 23=.pv (.str key))(Q:Exit->St->Prop)
    (bS:∀fr,Kp [2,3,4,5,13,14,15,18,19,21,22,23] fr0 fr->look fr 24=.pv (.bool (!hasB key M))->Q (.exit 8) ⟨fr,hp,nx⟩) :
    ∀(rest:List ByteArray) (i:Nat) (b:Bool),M.drop i=rest->i<=M.length->(b&&!hasB key rest)=!hasB key M->∀(fr:List (Nat×AV)),Kp [2,3,4,5,13,14,15,18,19,21,22,23] fr0 fr->look fr 24=.pv (.bool b)->look fr 25=.pv (.int .i64 i)->Wp T false (.loop yq) ⟨fr,hp,nx⟩ Q:=by
 intro rest;induction rest with
 |nil =>
  intro i b hd hi ho fr hK J2 Qa;have hlen:=drop_nil hd hi;have BP:=(hK 14 (by decide)).trans pg;have zF:=hv.len;rw[al]at zF;simp only[hasB,Bool.not_false,bw]at ho;subst ho;rw[ay,aY yq.eq_1];simp only[rL',aa,simprocAttr,BP,zF,Qa,hlen,aR];refine bS _ ?_ ?_
  ·repeat (refine Kp.put (by decide) ?_)
   exact hK
  ·all_goals try simp only[aj,Nat.reduceEqDiff,J2]
 |cons a r ih =>
  intro i b hd hi ho fr hK J2 Qa;obtain⟨aK,hlt,hw,di,cS,hb⟩:=drop_cons hd (by omega);have BP:=(hK 14 (by decide)).trans pg;have TZ:=(hK 23 (by decide)).trans U6;have zF:=hv.len;rw[al]at zF;obtain⟨id,lI,e1,e2,e3,e4,e5,e6,e7⟩:=hv.at (i:=i) (e:=[.str a]) (by rw[fj,aK];rfl);rw[ay,aY yq.eq_1];simp only[hasB]at ho;cases b with
  |false =>
   simp only[rL',aa,simprocAttr,BP,zF,J2,Qa,hlt,hw];refine ih (i+1) false di cS (by rw[<-ho];simp) _ ?_ ?_ ?_
   ·repeat (refine Kp.put (by decide) ?_)
    exact hK
   ·all_goals try simp only[aj,Nat.reduceEqDiff,]
   ·all_goals try simp only[aj,Nat.reduceEqDiff,]
  |true =>
   simp only[rL',aa,simprocAttr,BP,zF,TZ,J2,Qa,hlt,hw,e7,e4,e5,Vk];refine ih (i+1) (!decide (a=key)) di cS (by rw[<-ho];cases decide (a=key) <;>simp) _ ?_ ?_ ?_
   ·repeat (refine Kp.put (by decide) ?_)
    exact hK
   ·all_goals try simp only[aj,Nat.reduceEqDiff,]
   ·all_goals try simp only[aj,Nat.reduceEqDiff,]
structure Gd(s:bc)(x:Spec)(L:List State)(M:List ByteArray)(N:List State)(v13 nF qi:AV)(hp:Hl)(nx:Nat):Prop where
 b0:ah hp 0=.var [.pv (.slice (s.nodes.map bB)),.pv (.slice (s.aU.map bN)),.pv (.slice (s.pods.map aJ))]
 b1:ah hp 1=.var [.pv (.slice (x.aZ.map cg)),.pv (.int .i64 x.pre),.pv (.int .i64 x.eW)]
 ph:fx v13 hp 3 (L.map nN) 3 nx
 uI:fx nF hp 1 (M.map CX) 3 nx
 Hi:fx qi hp 3 (N.map nN) 3 nx
 d1:∀i,i∈cw v13->i∈cw nF->False
 d2:∀i,i∈cw v13->i∈cw qi->False
 d3:∀i,i∈cw nF->i∈cw qi->False
 hn:3<=nx
theorem Gd.NX{s:bc}{x:Spec}{L:List State}{M:List ByteArray}{N:List State}{v13 nF qi:AV}{hp:Hl}{nx:Nat}(h:Gd s x L M N v13 nF qi hp nx)(k:ByteArray)(hl:M.length+1<=2^30) :
    ∃W,fT (ah ((nx,.row 1 [CX k])::hp)) (nx+1) 1 nF [CX k]=some (.ms (nx+1),W,1)/\Gd s x L (M++[k]) N v13 (.ms (nx+1)) qi (W++(nx,.row 1 [CX k])::hp) (nx+2):=by
 obtain⟨W,a1,a2,a3⟩:=h.uI.mj h.hn (CX k) (by rw[al];exact hl);have hn:=h.hn;have zF:=h.uI.low;have D3:=h.ph.low;have NL:=h.Hi.low;have z:∀i,i<3->¬i∈cw nF:=fun i hi hm=>by have:=(zF i hm).1;omega
 refine⟨W,a1,(a2 0 (by omega) (z 0 (by omega))).trans h.b0,(a2 1 (by omega) (z 1 (by omega))).trans h.b1,h.ph.mono (fun i _ hi hm=>a2 i hi (h.d1 i hm)) (by omega),?_,h.Hi.mono (fun i _ hi hm=>a2 i hi (fun h2=>h.d3 i h2 hm)) (by omega),fun i h1 h2=>?_,h.d2,fun i h1 h2=>?_,by omega⟩
 ·rw[bj];exact .inr ⟨nx+1,_,by omega,by omega,.inl ⟨rfl,rfl⟩,a3⟩
 ·have:=(D3 i h1).2;simp[cw]at h2;omega
 ·have:=(NL i h2).2;simp[cw]at h1;omega
theorem Gd.NY{s:bc}{x:Spec}{L:List State}{M:List ByteArray}{N:List State}{v13 nF qi:AV}{hp:Hl}{nx:Nat}(h:Gd s x L M N v13 nF qi hp nx)(u:State)(hl:N.length+1<=2^30) :
    ∃W,fT (ah ((nx,.row 3 [nN u])::hp)) (nx+1) 3 qi [nN u]=some (.ms (nx+1),W,1)/\Gd s x L M (N++[u]) v13 nF (.ms (nx+1)) (W++(nx,.row 3 [nN u])::hp) (nx+2):=by
 obtain⟨W,a1,a2,a3⟩:=h.Hi.mj h.hn (nN u) (by rw[al];exact hl);have hn:=h.hn;have zF:=h.uI.low;have D3:=h.ph.low;have NL:=h.Hi.low;have z:∀i,i<3->¬i∈cw qi:=fun i hi hm=>by have:=(NL i hm).1;omega
 refine⟨W,a1,(a2 0 (by omega) (z 0 (by omega))).trans h.b0,(a2 1 (by omega) (z 1 (by omega))).trans h.b1,h.ph.mono (fun i _ hi hm=>a2 i hi (h.d2 i hm)) (by omega),h.uI.mono (fun i _ hi hm=>a2 i hi (h.d3 i hm)) (by omega),?_,h.d1,fun i h1 h2=>?_,fun i h1 h2=>?_,by omega⟩
 ·rw[bj];exact .inr ⟨nx+1,_,by omega,by omega,.inl ⟨rfl,rfl⟩,a3⟩
 ·have:=(D3 i h1).2;simp[cw]at h2;omega
 ·have:=(zF i h1).2;simp[cw]at h2;omega
set_option maxRecDepth 100000 in
set_option maxHeartbeats 16000000 in
theorem KK{s:bc}{x:Spec}{L us:List State}{most:Nat}(kk:∀u∈us,ba T 186 [ar u] (.str (fO u)))(Ts:us.length<=2^29)(hm:most<=100000){v13:AV}{fr0:List (Nat×AV)}(g3:look fr0 3=.pv (.int .i64 (most:Nat)))(pf:look fr0 13=v13)(T5:look fr0 21=.pv (.slice (us.map nN)))(Q:Exit->St->Prop)(o:Option (List ByteArray×List State))
    (bS:∀q,o=some q->∀fr hp nx nF qi,Kp [2,3,4,5,13,15,19,21] fr0 fr->look fr 14=nF->look fr 18=qi->Gd s x L q.1 q.2 v13 nF qi hp nx->q.1.length<=most->q.2.length<=q.1.length->Q (.exit 6) ⟨fr,hp,nx⟩)
    (dI:o=none->∀fr hp nx,look fr 8=.pv (.bool false)->look fr 9=.pv (.bool false)->Q .ret ⟨fr,hp,nx⟩) :
    ∀(rest:List State) (i:Nat) (M:List ByteArray) (N:List State),us.drop i=rest->i<=us.length->Jc most rest M N=o->M.length<=most->N.length<=M.length->∀(fr:List (Nat×AV)) (hp:Hl) (nx:Nat) (nF qi:AV),Kp [2,3,4,5,13,15,19,21] fr0 fr->look fr 14=nF->look fr 18=qi->look fr 22=.pv (.int .i64 i)->Gd s x L M N v13 nF qi hp nx->Wp T false (.loop yr) ⟨fr,hp,nx⟩ Q:=by
 intro rest;induction rest with
 |nil =>
  intro i M N hd hi ho J5 Mw fr hp nx nF qi hK pg Mj Q9 V;have hlen:=drop_nil hd hi;have Q7:=(hK 21 (by decide)).trans T5;rw[ay,aY yr.eq_1];simp only[rL',aa,simprocAttr,Q7,Q9,hlen,aR,al];refine bS (M,N) (by rw[<-ho];rfl) _ _ _ nF qi ?_ ?_ ?_ V J5 Mw
  ·repeat (refine Kp.put (by decide) ?_)
   exact hK
  ·all_goals try simp only[aj,Nat.reduceEqDiff,pg]
  ·all_goals try simp only[aj,Nat.reduceEqDiff,Mj]
 |cons u r ih =>
  intro i M N hd hi ho J5 Mw fr hp nx nF qi hK pg Mj Q9 V;obtain⟨aK,hlt,hw,di,cS,hb⟩:=drop_cons hd (by omega);have Q7:=(hK 21 (by decide)).trans T5;have c3:=(hK 3 (by decide)).trans g3;have k:=kk u (dH aK);have RQ:(us.map nN)[i]? =some [.slice (u.pods.map aJ),.int .i64 u.pre,.int .i64 u.eW]:=by rw[fj,aK];rfl
  simp only[ar]at k;unfold Jc at ho;rw[ay,aY yr.eq_1];simp only[rL',aa,simprocAttr,Q7,Q9,hlt,al,RQ,k.call];refine KJ (M:=M) (by omega) V.uI (key:=fO u) (fr0:=_) ?_ ?_ _ (fun JS k1 J2=>?_) M 0 true rfl (aN _) (by simp) _ (fun _ _=>rfl) ?_ ?_
  ·all_goals try simp only[aj,Nat.reduceEqDiff,pg]
  ·all_goals try simp only[aj,Nat.reduceEqDiff,]
  ·have HK:=k1 14 (by decide);have Qy:=k1 18 (by decide);have Sm:=k1 21 (by decide);have Qz:=k1 22 (by decide);have Sn:=k1 23 (by decide);have j3:=k1 3 (by decide);simp only[aj,Nat.reduceEqDiff,pg,Mj,Q7,Q9,c3]at HK Qy Sm Qz Sn j3;have Qj:Kp [2,3,4,5,13,15,19,21] fr0 JS:=by
    refine Kp.trans ?_ k1 (by decide)
    repeat (refine Kp.put (by decide) ?_)
    exact hK
   by_cases hh:hasB (fO u) M=true
   ·rw[aW hh]at ho;rw[hh]at J2;have zF:=V.uI.len;rw[al]at zF;have hc:¬(most:Int)<(M.length:Int):=by omega
    rw[aw (by omega)]at ho;simp only[rL',aa,simprocAttr,J2,HK,Qz,j3,zF,hc,hw];refine ih (i+1) M N di cS ho J5 Mw _ _ _ nF qi ?_ ?_ ?_ ?_ V
    ·repeat (refine Kp.put (by decide) ?_)
     exact Qj
    ·all_goals try simp only[aj,Nat.reduceEqDiff,HK]
    ·all_goals try simp only[aj,Nat.reduceEqDiff,Qy]
    ·all_goals try simp only[aj,Nat.reduceEqDiff,]
   ·rw[aw hh]at ho;have Ur:hasB (fO u) M=false:=by simpa using hh
    rw[Ur]at J2;obtain⟨W,a1,V1⟩:=V.NX (fO u) (by omega);obtain⟨W2,a2,V2⟩:=V1.NY u (by omega);have zF:=V2.uI.len;rw[al,aM]at zF;simp only[CX,nN,aC,bU]at a1 a2 zF;by_cases hc:most<M.length+1
    ·rw[aW hc]at ho;have w8:(most:Int)<((M.length+(0+1):Nat):Int):=by omega
     simp only[rL',aa,simprocAttr,J2,HK,Qy,Sm,Qz,Sn,j3,RQ,bt,chunk,cq,bL,bW,dW,a1,a2,zF,w8];refine dI ho.symm _ _ _ ?_ ?_
     ·all_goals try simp only[aj,Nat.reduceEqDiff,]
     ·all_goals try simp only[aj,Nat.reduceEqDiff,]
    ·rw[aw hc]at ho;have w8:¬(most:Int)<((M.length+(0+1):Nat):Int):=by omega
     simp only[rL',aa,simprocAttr,J2,HK,Qy,Sm,Qz,Sn,j3,RQ,bt,chunk,cq,bL,bW,dW,a1,a2,zF,w8,hw];refine ih (i+1) (M++[fO u]) (N++[u]) di cS ho (by rw[aM];simp;omega) (by rw[aM,aM];simp;omega) _ _ _ (.ms (nx+1)) (.ms (nx+2+1)) ?_ ?_ ?_ ?_ V2
     ·repeat (refine Kp.put (by decide) ?_)
      refine fun j hj=>?_;exact Qj j hj
     ·all_goals try simp only[aj,Nat.reduceEqDiff,]
     ·all_goals try simp only[aj,Nat.reduceEqDiff,]
     ·all_goals try simp only[aj,Nat.reduceEqDiff,]
  ·all_goals try simp only[aj,Nat.reduceEqDiff,]
  ·all_goals try simp only[aj,Nat.reduceEqDiff,]
   rfl
set_option maxRecDepth 100000 in
set_option maxHeartbeats 16000000 in
theorem KL{s:bc}{x:Spec}{L:List State}{most:Nat}(ka:∀t∈L,ba T 185 [aD s,bd x,ar t] (.tuple [.slice ((mi s x t).map fun p=>bF p.1),.slice ((mi s x t).map fun p=>nN p.2)]))(kk:∀t∈L,∀p∈mi s x t,ba T 186 [ar p.2] (.str (fO p.2)))(OL:∀t∈L,(mi s x t).length<=2^29)(hL:L.length<=2^29)(hm:most<=100000){v13:AV}{fr0:List (Nat×AV)}(g3:look fr0 3=.pv (.int .i64 (most:Nat)))(g4:look fr0 4=.ptr 0 0 0)(g5:look fr0 5=.ptr 1 0 0)(pf:look fr0 13=v13)(Q:Exit->St->Prop)(o:Option (List ByteArray×List State))
    (bS:∀q,o=some q->∀fr hp nx nF qi,Kp [2,3,4,5,13,15] fr0 fr->look fr 14=nF->look fr 18=qi->Gd s x L q.1 q.2 v13 nF qi hp nx->q.1.length<=most->q.2.length<=q.1.length->Q (.exit 4) ⟨fr,hp,nx⟩)
    (dI:o=none->∀fr hp nx,look fr 8=.pv (.bool false)->look fr 9=.pv (.bool false)->Q .ret ⟨fr,hp,nx⟩) :
    ∀(rest:List State) (i:Nat) (M:List ByteArray) (N:List State),L.drop i=rest->i<=L.length->wh s x most rest M N=o->M.length<=most->N.length<=M.length->∀(fr:List (Nat×AV)) (hp:Hl) (nx:Nat) (nF qi:AV),Kp [2,3,4,5,13,15] fr0 fr->look fr 14=nF->look fr 18=qi->look fr 19=.pv (.int .i64 i)->Gd s x L M N v13 nF qi hp nx->Wp T false (.loop yt) ⟨fr,hp,nx⟩ Q:=by
 intro rest;induction rest with
 |nil =>
  intro i M N hd hi ho J5 Mw fr hp nx nF qi hK pg Mj DH V;have hlen:=drop_nil hd hi;have tp:=(hK 13 (by decide)).trans pf;have D3:=V.ph.len;rw[al]at D3;rw[ay,aY yt.eq_1];simp only[rL',aa,simprocAttr,tp,D3,DH,hlen,aR];refine bS (M,N) (by rw[<-ho];rfl) _ _ _ nF qi ?_ ?_ ?_ V J5 Mw
  ·repeat (refine Kp.put (by decide) ?_)
   exact hK
  ·all_goals try simp only[aj,Nat.reduceEqDiff,pg]
  ·all_goals try simp only[aj,Nat.reduceEqDiff,Mj]
 |cons t r ih =>
  intro i M N hd hi ho J5 Mw fr hp nx nF qi hK pg Mj DH V;obtain⟨aK,hlt,hw,di,cS,hb⟩:=drop_cons hd (by omega);have Sb:=dH aK;have tp:=(hK 13 (by decide)).trans pf;have c4:=(hK 4 (by decide)).trans g4;have c5:=(hK 5 (by decide)).trans g5;have c3:=(hK 3 (by decide)).trans g3;have D3:=V.ph.len;rw[al]at D3;obtain⟨id,lI,e1,e2,e3,e4,e5,e6,e7⟩:=V.ph.at (i:=i) (e:=nN t) (by rw[fj,aK];rfl);have k:=ka t Sb;have d0:=V.b0;have d1:=V.b1;simp only[aD,bd,ar]at k;simp only[nN]at e5;unfold wh at ho;rw[ay,aY yt.eq_1];simp only[rL',aa,simprocAttr,tp,D3,DH,hlt];refine(cz rfl).2 ?_;simp only[rL',aa,simprocAttr,c4,c5,tp,DH,d0,d1,e7,e4,e5,k.cn];have P3:(mi s x t).map (fun p=>nN p.2)=((mi s x t).map Prod.snd).map nN:=by rw[List.map_map];rfl
  refine KK (L:=L) (us:=(mi s x t).map Prod.snd) (most:=most) (fun u hu=>?_) (by rw[al];exact OL t Sb) hm (v13:=v13) (fr0:=_) ?_ ?_ ?_ _ (Jc most ((mi s x t).map Prod.snd) M N) (fun q hq JS pY KH SH SI k1 SA Na V1 m1 m2=>?_) (fun hq JS pY KH q8 q9=>?_) _ 0 M N rfl (aN _) rfl J5 Mw _ _ _ nF qi (fun _ _=>rfl) ?_ ?_ ?_ V
  ·obtain⟨p,hp,rfl⟩:=cC.1 hu;exact kk t Sb p hp
  ·all_goals try simp only[aj,Nat.reduceEqDiff,c3]
  ·all_goals try simp only[aj,Nat.reduceEqDiff,tp]
  ·simp only[aj,Nat.reduceEqDiff,nN]at P3⊢;rw[<-P3]
  ·rw[hq]at ho;have Tz:=k1 19 (by decide);simp only[aj,Nat.reduceEqDiff,DH]at Tz;simp only[rL',aa,simprocAttr,Tz,hw];refine ih (i+1) q.1 q.2 di cS ho m1 m2 _ _ _ SH SI ?_ ?_ ?_ ?_ V1
   ·repeat (refine Kp.put (by decide) ?_)
    refine Kp.trans ?_ k1 (by decide)
    repeat (refine Kp.put (by decide) ?_)
    exact hK
   ·all_goals try simp only[aj,Nat.reduceEqDiff,SA]
   ·all_goals try simp only[aj,Nat.reduceEqDiff,Na]
   ·all_goals try simp only[aj,Nat.reduceEqDiff,]
  ·rw[hq]at ho;simp only[rL',aa,simprocAttr];exact dI ho.symm _ _ _ q8 q9
  ·all_goals try simp only[aj,Nat.reduceEqDiff,pg]
  ·all_goals try simp only[aj,Nat.reduceEqDiff,Mj]
  ·all_goals try simp only[aj,Nat.reduceEqDiff,]
   rfl
set_option maxRecDepth 100000 in
set_option maxHeartbeats 16000000 in
theorem E0{x:Spec}{L:List State}{hp:Hl}{nx lo:Nat}(kg:∀t∈L,ba T 165 [bd x,ar t] (.bool (dh x.aZ t.pods)))(hL:L.length<=2^29){v13:AV}(ph:fx v13 hp 3 (L.map nN) lo nx)(b1:ah hp 1=.var [.pv (.slice (x.aZ.map cg)),.pv (.int .i64 x.pre),.pv (.int .i64 x.eW)]){fr0:List (Nat×AV)}(g5:look fr0 5=.ptr 1 0 0)(pf:look fr0 13=v13)(Q:Exit->St->Prop)(b:Bool)
    (bS:b=false->∀fr,Kp [2,3,4,5,13,14,15] fr0 fr->Q (.exit 2) ⟨fr,hp,nx⟩) (dI:b=true->∀fr,look fr 8=.pv (.bool true)->look fr 9=.pv (.bool true)->Q .ret ⟨fr,hp,nx⟩) :
    ∀(rest:List State) (i:Nat),L.drop i=rest->i<=L.length->rest.any (fun t=>dh x.aZ t.pods)=b->∀(fr:List (Nat×AV)),Kp [2,3,4,5,13,14,15] fr0 fr->look fr 16=.pv (.int .i64 i)->Wp T false (.loop yp) ⟨fr,hp,nx⟩ Q:=by
 intro rest;induction rest with
 |nil =>
  intro i hd hi ho fr hK tv;have hlen:=drop_nil hd hi;have tp:=(hK 13 (by decide)).trans pf;have D3:=ph.len;rw[al]at D3;rw[ay,aY yp.eq_1];simp only[rL',aa,simprocAttr,tp,D3,tv,hlen,aR];refine bS (by rw[<-ho];rfl) _ ?_
  repeat (refine Kp.put (by decide) ?_)
  exact hK
 |cons t r ih =>
  intro i hd hi ho fr hK tv;obtain⟨aK,hlt,hw,di,cS,hb⟩:=drop_cons hd (by omega);have tp:=(hK 13 (by decide)).trans pf;have c5:=(hK 5 (by decide)).trans g5;have D3:=ph.len;rw[al]at D3;obtain⟨id,lI,e1,e2,e3,e4,e5,e6,e7⟩:=ph.at (i:=i) (e:=nN t) (by rw[fj,aK];rfl);have k:=kg t (dH aK);simp only[bd,ar]at k;simp only[nN]at e5;simp only[List.any_cons]at ho;rw[ay,aY yp.eq_1];simp only[rL',aa,simprocAttr,tp,D3,tv,hlt];refine(cz rfl).2 ?_;cases hg:dh x.aZ t.pods with
  |true =>
   rw[hg]at k ho;simp only[rL',aa,simprocAttr,c5,tp,tv,b1,e7,e4,e5,k.cn];refine dI (by rw[<-ho];rfl) _ ?_ ?_
   ·all_goals try simp only[aj,Nat.reduceEqDiff,]
   ·all_goals try simp only[aj,Nat.reduceEqDiff,]
  |false =>
   rw[hg]at k ho;simp only[rL',aa,simprocAttr,c5,tp,tv,b1,e7,e4,e5,k.cn,hw];refine ih (i+1) di cS (by rw[<-ho];simp) _ ?_ ?_
   ·repeat (refine Kp.put (by decide) ?_)
    exact hK
   ·all_goals try simp only[aj,Nat.reduceEqDiff,]
set_option maxRecDepth 100000 in
set_option maxHeartbeats 16000000 in
theorem KM{s:bc}{x:Spec}{most depth:Nat}(hs:s.wf)(hx:∀w∈x.aZ,w.wf)(MB:depth<=2^29)(ka:∀t,Rs s t->ba T 185 [aD s,bd x,ar t] (.tuple [.slice ((mi s x t).map fun p=>bF p.1),.slice ((mi s x t).map fun p=>nN p.2)]))(kk:∀t,Rs s t->ba T 186 [ar t] (.str (fO t)))(kg:∀t,Rs s t->ba T 165 [bd x,ar t] (.bool (dh x.aZ t.pods)))(OL:∀t,Rs s t->(mi s x t).length<=2^29)(hm:most<=100000)(Q:Exit->St->Prop)(o:Bool×Bool)
    (dI:∀fr hp nx,look fr 8=.pv (.bool o.1)->look fr 9=.pv (.bool o.2)->Q .ret ⟨fr,hp,nx⟩) :
    ∀(n d:Nat) (L:List State) (M:List ByteArray),d+n=depth->lC s x most n L M=o->M.length<=most->L.length<=M.length->(∀t∈L,Rs s t)->∀(fr:List (Nat×AV)) (hp:Hl) (nx:Nat) (v13 nF:AV),look fr 2=.pv (.int .i64 (depth:Nat))->look fr 3=.pv (.int .i64 (most:Nat))->look fr 4=.ptr 0 0 0->look fr 5=.ptr 1 0 0->look fr 13=v13->look fr 14=nF->look fr 15=.pv (.int .i64 (d:Nat))->Gd s x L M [] v13 nF .bu hp nx->Wp T false (.loop yu) ⟨fr,hp,nx⟩ Q:=by
 intro n;induction n with
 |zero =>
  intro d L M hd ho J5 Ui hR fr hp nx v13 nF g2 g3 g4 g5 pf pg te V;unfold lC at ho;rw[ay,aY yu.eq_1];simp only[rL',aa,simprocAttr];refine E0 (L:=L) (fun t ht=>kg t (hR t ht)) (by omega) V.ph V.b1 (fr0:=_) ?_ ?_ _ (L.any fun t=>dh x.aZ t.pods) (fun hb JS k1=>?_) (fun hb JS q8 q9=>?_) L 0 rfl (aN _) rfl _ (fun _ _=>rfl) ?_
  ·all_goals try simp only[aj,Nat.reduceEqDiff,g5]
  ·all_goals try simp only[aj,Nat.reduceEqDiff,pf]
  ·rw[hb]at ho;have j2:=k1 2 (by decide);have Ku:=k1 15 (by decide);simp only[aj,Nat.reduceEqDiff,g2,te]at j2 Ku;have hc:((d:Nat):Int)=((depth:Nat):Int):=by omega
   simp only[rL',aa,simprocAttr,j2,Ku,hc];refine dI _ _ _ ?_ ?_
   ·rw[<-ho]
    all_goals try simp only[aj,Nat.reduceEqDiff,]
    rfl
   ·rw[<-ho]
    all_goals try simp only[aj,Nat.reduceEqDiff,]
    rfl
  ·rw[hb]at ho;simp only[rL',aa,simprocAttr];refine dI _ _ _ ?_ ?_
   ·rw[<-ho];exact q8
   ·rw[<-ho];exact q9
  ·all_goals try simp only[aj,Nat.reduceEqDiff,]
   rfl
 |succ n ih =>
  intro d L M hd ho J5 Ui hR fr hp nx v13 nF g2 g3 g4 g5 pf pg te V;unfold lC at ho;rw[ay,aY yu.eq_1];simp only[rL',aa,simprocAttr];refine E0 (L:=L) (fun t ht=>kg t (hR t ht)) (by omega) V.ph V.b1 (fr0:=_) ?_ ?_ _ (L.any fun t=>dh x.aZ t.pods) (fun hb JS k1=>?_) (fun hb JS q8 q9=>?_) L 0 rfl (aN _) rfl _ (fun _ _=>rfl) ?_
  ·all_goals try simp only[aj,Nat.reduceEqDiff,g5]
  ·all_goals try simp only[aj,Nat.reduceEqDiff,pf]
  ·rw[hb]at ho;simp only[bK,aI]at ho;have j2:=k1 2 (by decide);have j3:=k1 3 (by decide);have j4:=k1 4 (by decide);have j5:=k1 5 (by decide);have Pw:=k1 13 (by decide);have HK:=k1 14 (by decide);have Ku:=k1 15 (by decide);simp only[aj,Nat.reduceEqDiff,g2,g3,g4,g5,pf,pg,te]at j2 j3 j4 j5 Pw HK Ku;have hc:¬((d:Nat):Int)=((depth:Nat):Int):=by omega
   simp only[rL',aa,simprocAttr,j2,Ku,hc];refine KL (L:=L) (most:=most) (fun t ht=>ka t (hR t ht)) (fun t ht p hp=>kk p.2 ((hR t ht).step hs hx (tO.1 hp))) (fun t ht=>OL t (hR t ht)) (by omega) hm (v13:=v13) (fr0:=_) ?_ ?_ ?_ ?_ _ (wh s x most L M []) (fun q hq Nr ql LN SH SI k2 SA Na V1 m1 m2=>?_) (fun hq Nr ql LN q8 q9=>?_) L 0 M [] rfl (aN _) rfl J5 (aN _) _ _ _ nF .bu (fun _ _=>rfl) ?_ ?_ ?_ V
   ·all_goals try simp only[aj,Nat.reduceEqDiff,j3]
   ·all_goals try simp only[aj,Nat.reduceEqDiff,j4]
   ·all_goals try simp only[aj,Nat.reduceEqDiff,j5]
   ·all_goals try simp only[aj,Nat.reduceEqDiff,Pw]
   ·rw[hq]at ho;dsimp only at ho;have i2:=k2 2 (by decide);have i3:=k2 3 (by decide);have i4:=k2 4 (by decide);have i5:=k2 5 (by decide);have Tx:=k2 15 (by decide);simp only[aj,Nat.reduceEqDiff,j2,j3,j4,j5,Ku]at i2 i3 i4 i5 Tx;have hw:IntKind.i64.wrap ((d:Int)+1)=((d+1:Nat):Int):=by rw[f9] <;>omega
    obtain⟨new,h1,_,h3,_⟩:=z8 hq;rw[aE]at h1;simp only[rL',aa,simprocAttr,Tx,Na,hw];refine ih (d+1) q.2 q.1 (by omega) ho m1 m2 (fun t ht=>?_) _ _ _ SI SH ?_ ?_ ?_ ?_ ?_ ?_ ?_ ⟨V1.b0,V1.b1,V1.Hi,V1.uI,.inl ⟨rfl,rfl⟩,fun i a b=>V1.d3 i b a,fun i a b=>by simp[cw]at b,fun i a b=>by simp[cw]at b,V1.hn⟩
    ·rw[h1]at ht;obtain⟨t',MO,m,hd⟩:=h3 t ht;exact(hR t' MO).step hs hx hd
    ·all_goals try simp only[aj,Nat.reduceEqDiff,i2]
    ·all_goals try simp only[aj,Nat.reduceEqDiff,i3]
    ·all_goals try simp only[aj,Nat.reduceEqDiff,i4]
    ·all_goals try simp only[aj,Nat.reduceEqDiff,i5]
    ·all_goals try simp only[aj,Nat.reduceEqDiff,]
    ·all_goals try simp only[aj,Nat.reduceEqDiff,SA]
    ·all_goals try simp only[aj,Nat.reduceEqDiff,]
   ·rw[hq]at ho;simp only[rL',aa,simprocAttr];refine dI _ _ _ ?_ ?_
    ·rw[<-ho];exact q8
    ·rw[<-ho];exact q9
   ·all_goals try simp only[aj,Nat.reduceEqDiff,HK]
   ·all_goals try simp only[aj,Nat.reduceEqDiff,]
   ·all_goals try simp only[aj,Nat.reduceEqDiff,]
    rfl
  ·rw[hb]at ho;simp only[rL',aa,simprocAttr];refine dI _ _ _ ?_ ?_
   ·rw[<-ho];exact q8
   ·rw[<-ho];exact q9
  ·all_goals try simp only[aj,Nat.reduceEqDiff,]
   rfl
def iX(s:bc)(x:Spec)(depth most:Nat):Bool×Bool:=if(oW s x (bR s)).1=0 then lC s x most depth [bR s] [fO (bR s)]else(false,true)
set_option maxRecDepth 100000 in
set_option maxHeartbeats 16000000 in
theorem CJ(Ro:Std T 187 f187){s:bc}{x:Spec}{most depth:Nat}(hs:s.wf)(hx:∀w∈x.aZ,w.wf)(MB:depth<=2^29)(k1:ba T 164 [aD s] (ar (bR s)))(kw:ba T 184 [aD s,bd x,ar (bR s)] (.tuple [.int .i64 (oW s x (bR s)).1,.int .i64 (oW s x (bR s)).2]))(ka:∀t,Rs s t->ba T 185 [aD s,bd x,ar t] (.tuple [.slice ((mi s x t).map fun p=>bF p.1),.slice ((mi s x t).map fun p=>nN p.2)]))(kk:∀t,Rs s t->ba T 186 [ar t] (.str (fO t)))(kg:∀t,Rs s t->ba T 165 [bd x,ar t] (.bool (dh x.aZ t.pods)))(OL:∀t,Rs s t->(mi s x t).length<=2^29)(hm:most<=100000)(UE:1<=most) :
    ba T 187 [aD s,bd x,.int .i64 (depth:Nat),.int .i64 (most:Nat)] (.tuple [.bool (iX s x depth most).1,.bool (iX s x depth most).2]):=by
 refine gives Ro rfl ?_;have k2:=kk (bR s) (Rs.first hs);simp only[aD,bd,ar]at k1 kw k2⊢;unfold iX;by_cases c:(oW s x (bR s)).1=0
 ·rw[aW c];simp only[f187,rL',aa,simprocAttr,k1.call,kw.call,k2.call,c,bt,chunk];refine KM hs hx MB ka kk kg OL hm _ (lC s x most depth [bR s] [fO (bR s)]) (fun fr hp nx q8 q9=>?_) depth 0 [bR s] [fO (bR s)] (by omega) rfl (by simpa using UE) (ax _) (fun t ht=>by simp only[gN]at ht;rw[ht];exact Rs.first hs) _ _ _ (.ms 3) (.ms 4) ?_ ?_ ?_ ?_ ?_ ?_ ?_ ⟨?_,?_,.inr ⟨3,_,by decide,by decide,.inl ⟨rfl,rfl⟩,?_⟩,.inr ⟨4,_,by decide,by decide,.inl ⟨rfl,rfl⟩,?_⟩,.inl ⟨rfl,rfl⟩,by simp[cw],by simp[cw],by simp[cw],by decide⟩
  ·simp only[rL',aa,simprocAttr,q8,q9]
  ·all_goals try simp only[aj,Nat.reduceEqDiff,]
  ·all_goals try simp only[aj,Nat.reduceEqDiff,]
  ·all_goals try simp only[aj,Nat.reduceEqDiff,]
  ·all_goals try simp only[aj,Nat.reduceEqDiff,]
  ·all_goals try simp only[aj,Nat.reduceEqDiff,]
  ·all_goals try simp only[aj,Nat.reduceEqDiff,]
  ·all_goals try simp only[aj,Nat.reduceEqDiff,]
   rfl
  ·simp only[aj,Nat.reduceEqDiff]
  ·simp only[aj,Nat.reduceEqDiff]
  ·simp only[aj,Nat.reduceEqDiff];rfl
  ·simp only[aj,Nat.reduceEqDiff];rfl
 ·rw[aw c];simp only[f187,rL',aa,simprocAttr,k1.call,kw.call,c]
theorem Fz{s:bc}{x:Spec}{depth most:Nat}(hs:s.wf)(hx:∀w∈x.aZ,w.wf)(h:(oW s x (bR s)).1=0):((iX s x depth most).1=true->(iX s x depth most).2=true/\∃ms:List Move,∃t,ms.length<=depth/\Wk s x ms t/\dh x.aZ t.pods=true)/\(iX s x depth most=(false,true)->∀ms t,ms.length<=depth->Wk s x ms t->¬dh x.aZ t.pods=true):=by
 have:=xf (most:=most) hs hx (n:=depth) (Bz.first (x:=x) hs);rw[aQ]at this;unfold iX;rw[aW h];refine⟨fun h1=>?_,fun h1 ms t hl hw=>this.2 h1 t ⟨ms,hl,hw⟩⟩;obtain⟨a,t,⟨ms,b,c⟩,d⟩:=this.1 h1;exact⟨a,ms,t,b,c,d⟩
end
end
section
section
variable{T:cL}
structure zK(T:cL):Prop where
 oC:Std T 155 f155
 EY:Std T 157 f157
 F0:Std T 166 f166
 nV:Std T 167 f167
set_option maxRecDepth 100000 in
set_option maxHeartbeats 4000000 in
theorem N0(S:zK T)(s:bc)(x:Spec)(t:State)(m:Move)(hs:s.nodes.length<=2^29)(hx:x.aZ.length<=2^29)(ht:t.pods.length<=2^29)(hk:m.kind=1) :
    ba T 166 [aD s,bd x,ar t,du m] (cR (bJ s x t m)):=by
 refine gives S.F0 rfl ?_;have kp:=gX S.nV t m.eU (by omega);have ko:=gX S.nV t m.over (by omega);have kn:=lA S.oC s m.node (by omega);have kw:=pr S.EY x m.eU (by omega);simp only[aD,bd,ar]at kp ko kn kw;simp only[f166,rL',aa,simprocAttr,aD,bd,ar,du,bF];have f1:¬m.kind<1:=by omega
 have f2:¬4<m.kind:=by omega
 have g3:∀(i:Nat) (q:dx),(t.pods.map aJ).set i (aJ q)=(t.pods.set i q).map aJ:=fun i q=>(List.map_set).symm;have hlen:t.pods.length<=2^30:=by omega
 have Md:cq 8 []=true:=rfl;by_cases o0:m.over=0
 ·have d0:=bI o0;rcases ca m.eU t.pods 0 with⟨p1,p2⟩|⟨j,p,aK,p2,p3,hj⟩
  ·rw[p2]at kp;have hm:bJ s x t m=.inl 4:=by
    unfold bJ;rw[aw (by simp[fg,hk,o0]),aW (by rw[p2];decide)]
   simp only[rL',aa,simprocAttr,f1,f2,hk,d0,kp.call,ko.call,hm,cR,dZ,ar,az]
  ·rw[p3,aQ]at kp;have lS:¬(j:Int)<0:=by omega
   rcases ig m.node s.nodes 0 with⟨e1,e2⟩|⟨a,n,e1,e2,e3⟩
   ·rw[e2]at kn;have hm:bJ s x t m=.inl 4:=by
     unfold bJ;rw[aw (by simp[fg,hk,o0]),aw (by rw[p3];omega),aW ⟨by omega,e1⟩]
    simp only[rL',aa,simprocAttr,f1,f2,hk,d0,kp.call,ko.call,kn.call,lS,hm,cR,dZ,ar,az]
   ·rw[e3,aQ]at kn;have G4:¬(a:Int)<0:=by omega
    simp only[rL',aa,simprocAttr,f1,f2,hk,d0,kp.call,ko.call,kn.call,lS,G4,aK,aJ];refine gA (ps:=[(0,1),(0,2),(0,4),(0,5),(0,6),(0,7),(0,9),(1,9),(2,9),(3,4),(3,5),(3,6),(3,7),(3,9),(4,9),(5,9),(6,9),(7,9)]) rfl ?_;simp only[rL',aa,simprocAttr,cW,bt,dW,chunk,Md,fT,eN,hlen,aE];refine⟨by simp only[iu,rL,lJ,fo,mem,keys,ix,cw,cp,cy,aE,aG,rL',aa,simprocAttr,bw,bh],?_⟩;by_cases c1:p.node=0
    ·have d1:=bI c1;have hm:bJ s x t m=.inr ⟨t.pods.set j (eH x p m.node),t.pre,t.eW⟩:=by
      unfold bJ;rw[aw (by simp[fg,hk,o0]),aw (by rw[p3];omega),aw (by rw[e2];simp),aw (by simp[hk]),p3,aQ];simp only[bY,aK];rw[aw (by omega),aw (by omega),aw (by omega),aw (by simp[c1])]
     have pC:=oM p2;rw[hm];rcases kF m.eU x.aZ 0 with⟨w1,w2⟩|⟨b,w,w0,w1,w2⟩
     ·rw[w2]at kw;have hc:eH x p m.node={p with node:=m.node}:=by
       unfold eH;rw[pC,w1]
      have e9:=g3 j {p with node:=m.node};simp only[aJ]at e9;rw[hc];simp only[rL',aa,simprocAttr,hk,d1,lS,hj,aK,aJ,kw.call,e9,cR,ar]
     ·rw[w2,aQ]at kw;have Az:(0:Int)<=(b:Int):=by omega
      cases jb:w.stay with
      |false =>
       have hc:eH x p m.node={p with node:=m.node}:=by
        unfold eH;rw[pC,w1];dsimp only;rw[aw (by rw[jb];decide)]
       have e9:=g3 j {p with node:=m.node};simp only[aJ]at e9;rw[hc];simp only[rL',aa,simprocAttr,hk,d1,lS,hj,aK,aJ,kw.call,Az,w0,cg,jb,e9,cR,ar]
      |true =>
       have hc:eH x p m.node={p with node:=m.node,jV:=w.jV}:=by
        unfold eH;rw[pC,w1];dsimp only;rw[aW jb]
       have e9:=g3 j {p with node:=m.node,jV:=w.jV};simp only[aJ]at e9;have gs:∀v:List PV,((t.pods.map aJ).set j v)[j]? =some v:=fun v=>by
        rw[kM (by rw[al];exact hj)]
       have ss:∀u v:List PV,(((t.pods.map aJ).set j u).set j v)=(t.pods.map aJ).set j v:=fun u v=>List.set_set ..
       rw[hc];simp only[rL',aa,simprocAttr,hk,d1,lS,hj,aK,aJ,kw.call,Az,w0,cg,jb,gs,ss,e9,cR,ar];refine(cz rfl).2 ?_;simp only[rL',aa,simprocAttr,hk,d1,lS,hj,aK,aJ,kw.call,Az,w0,cg,jb,gs,ss,e9,cR,ar,kh]
    ·have hm:bJ s x t m=.inl 7:=by
      unfold bJ;rw[aw (by simp[fg,hk,o0]),aw (by rw[p3];omega),aw (by rw[e2];simp),aw (by simp[hk]),p3,aQ];simp only[bY,aK];rw[aw (by omega),aw (by omega),aw (by omega),aW c1]
     simp only[rL',aa,simprocAttr,hk,c1,hm,cR,dZ,ar,az]
 ·have hm:bJ s x t m=.inl 1:=by
   unfold bJ;rw[aW (by simp[fg,hk,o0])]
  simp only[rL',aa,simprocAttr,f1,f2,hk,o0,hm,cR,dZ,ar,az]
set_option maxRecDepth 100000 in
set_option maxHeartbeats 4000000 in
theorem N2(S:zK T)(s:bc)(x:Spec)(t:State)(m:Move)(hs:s.nodes.length<=2^29)(hx:x.aZ.length<=2^29)(ht:t.pods.length<=2^29)(hk:m.kind=3) :
    ba T 166 [aD s,bd x,ar t,du m] (cR (bJ s x t m)):=by
 refine gives S.F0 rfl ?_;have kp:=gX S.nV t m.eU (by omega);have ko:=gX S.nV t m.over (by omega);have kn:=lA S.oC s m.node (by omega);have kw:=pr S.EY x m.eU (by omega);simp only[aD,bd,ar]at kp ko kn kw;simp only[f166,rL',aa,simprocAttr,aD,bd,ar,du,bF];have f1:¬m.kind<1:=by omega
 have f2:¬4<m.kind:=by omega
 have g3:∀(i:Nat) (q:dx),(t.pods.map aJ).set i (aJ q)=(t.pods.set i q).map aJ:=fun i q=>(List.map_set).symm;have hlen:t.pods.length<=2^30:=by omega
 have Md:cq 8 []=true:=rfl;by_cases o0:m.over=0
 ·have d0:=bI o0;rcases ca m.eU t.pods 0 with⟨p1,p2⟩|⟨j,p,aK,p2,p3,hj⟩
  ·rw[p2]at kp;have hm:bJ s x t m=.inl 4:=by
    unfold bJ;rw[aw (by simp[fg,hk,o0]),aW (by rw[p2];decide)]
   simp only[rL',aa,simprocAttr,f1,f2,hk,d0,kp.call,ko.call,hm,cR,dZ,ar,az]
  ·rw[p3,aQ]at kp;have lS:¬(j:Int)<0:=by omega
   rcases ig m.node s.nodes 0 with⟨e1,e2⟩|⟨a,n,e1,e2,e3⟩
   ·rw[e2]at kn;have hm:bJ s x t m=.inl 4:=by
     unfold bJ;rw[aw (by simp[fg,hk,o0]),aw (by rw[p3];omega),aW ⟨by omega,e1⟩]
    simp only[rL',aa,simprocAttr,f1,f2,hk,d0,kp.call,ko.call,kn.call,lS,hm,cR,dZ,ar,az]
   ·rw[e3,aQ]at kn;have G4:¬(a:Int)<0:=by omega
    simp only[rL',aa,simprocAttr,f1,f2,hk,d0,kp.call,ko.call,kn.call,lS,G4,aK,aJ];refine gA (ps:=[(0,1),(0,2),(0,4),(0,5),(0,6),(0,7),(0,9),(1,9),(2,9),(3,4),(3,5),(3,6),(3,7),(3,9),(4,9),(5,9),(6,9),(7,9)]) rfl ?_;simp only[rL',aa,simprocAttr,cW,bt,dW,chunk,Md,fT,eN,hlen,aE];refine⟨by simp only[iu,rL,lJ,fo,mem,keys,ix,cw,cp,cy,aE,aG,rL',aa,simprocAttr,bw,bh],?_⟩;have Tv:IntKind.i64.wrap (t.eW+1)=IntKind.i64.wrap (t.eW+1):=rfl;by_cases c1:p.node≠0/\p.node≠m.node
    ·obtain⟨c1,c2⟩:=c1;have hm:bJ s x t m=.inr ⟨t.pods.set j (eH x p m.node),t.pre,IntKind.i64.wrap (t.eW+1)⟩:=by
      unfold bJ;rw[aw (by simp[fg,hk,o0]),aw (by rw[p3];omega),aw (by rw[e2];simp),aw (by simp[hk]),p3,aQ];simp only[bY,aK];rw[aw (by omega),aW hk,aw c1,aw c2]
     have pC:=oM p2;rw[hm];rcases kF m.eU x.aZ 0 with⟨w1,w2⟩|⟨b,w,w0,w1,w2⟩
     ·rw[w2]at kw;have hc:eH x p m.node={p with node:=m.node}:=by
       unfold eH;rw[pC,w1]
      have e9:=g3 j {p with node:=m.node};simp only[aJ]at e9;rw[hc];simp only[rL',aa,simprocAttr,hk,c1,c2,lS,hj,aK,aJ,kw.call,e9,cR,ar]
     ·rw[w2,aQ]at kw;have Az:(0:Int)<=(b:Int):=by omega
      cases jb:w.stay with
      |false =>
       have hc:eH x p m.node={p with node:=m.node}:=by
        unfold eH;rw[pC,w1];dsimp only;rw[aw (by rw[jb];decide)]
       have e9:=g3 j {p with node:=m.node};simp only[aJ]at e9;rw[hc];simp only[rL',aa,simprocAttr,hk,c1,c2,lS,hj,aK,aJ,kw.call,Az,w0,cg,jb,e9,cR,ar]
      |true =>
       have hc:eH x p m.node={p with node:=m.node,jV:=w.jV}:=by
        unfold eH;rw[pC,w1];dsimp only;rw[aW jb]
       have e9:=g3 j {p with node:=m.node,jV:=w.jV};simp only[aJ]at e9;have gs:∀v:List PV,((t.pods.map aJ).set j v)[j]? =some v:=fun v=>by
        rw[kM (by rw[al];exact hj)]
       have ss:∀u v:List PV,(((t.pods.map aJ).set j u).set j v)=(t.pods.map aJ).set j v:=fun u v=>List.set_set ..
       rw[hc];simp only[rL',aa,simprocAttr,hk,c1,c2,lS,hj,aK,aJ,kw.call,Az,w0,cg,jb,gs,ss,e9,cR,ar];refine(cz rfl).2 ?_;simp only[rL',aa,simprocAttr,hk,c1,c2,lS,hj,aK,aJ,kw.call,Az,w0,cg,jb,gs,ss,e9,cR,ar,kh]
    ·have hm:bJ s x t m=.inl 7:=by
      unfold bJ;rw[aw (by simp[fg,hk,o0]),aw (by rw[p3];omega),aw (by rw[e2];simp),aw (by simp[hk]),p3,aQ];simp only[bY,aK];rw[aw (by omega),aW hk];by_cases q1:p.node=0
      ·rw[aW q1]
      ·have q2:p.node=m.node:=xA fun h=>c1 ⟨q1,h⟩;rw[aw q1,aW q2]
     by_cases q1:p.node=0
     ·have r1:=bI q1;simp only[rL',aa,simprocAttr,hk,r1,hm,cR,dZ,ar,az]
     ·have q2:p.node=m.node:=xA fun h=>c1 ⟨q1,h⟩;have r2:=bI q2;simp only[rL',aa,simprocAttr,hk,q1,r2,hm,cR,dZ,ar,az]
 ·have hm:bJ s x t m=.inl 1:=by
   unfold bJ;rw[aW (by simp[fg,hk,o0])]
  simp only[rL',aa,simprocAttr,f1,f2,hk,o0,hm,cR,dZ,ar,az]
end
end
section
section
variable{T:cL}
set_option maxRecDepth 100000 in
set_option maxHeartbeats 4000000 in
theorem N1(S:zK T)(s:bc)(x:Spec)(t:State)(m:Move)(hs:s.nodes.length<=2^29)(hx:x.aZ.length<=2^29)(ht:t.pods.length<=2^29)(hk:m.kind=2) :
    ba T 166 [aD s,bd x,ar t,du m] (cR (bJ s x t m)):=by
 refine gives S.F0 rfl ?_;have kp:=gX S.nV t m.eU (by omega);have ko:=gX S.nV t m.over (by omega);have kn:=lA S.oC s m.node (by omega);have kw:=pr S.EY x m.eU (by omega);simp only[aD,bd,ar]at kp ko kn kw;simp only[f166,rL',aa,simprocAttr,aD,bd,ar,du,bF];have f1:¬m.kind<1:=by omega
 have f2:¬4<m.kind:=by omega
 have g3:∀(l:List dx) (i:Nat) (q:dx),(l.map aJ).set i (aJ q)=(l.set i q).map aJ:=fun l i q=>(List.map_set).symm;have hlen:t.pods.length<=2^30:=by omega
 have Md:cq 8 []=true:=rfl;by_cases o0:m.over=0
 ·have d0:=bI o0;by_cases n0:m.node=0
  ·have dn:=bI n0;rcases ca m.eU t.pods 0 with⟨p1,p2⟩|⟨j,p,aK,p2,p3,hj⟩
   ·rw[p2]at kp;have hm:bJ s x t m=.inl 4:=by
     unfold bJ;rw[aw (by simp[fg,hk,o0,n0]),aW (by rw[p2];decide)]
    simp only[rL',aa,simprocAttr,f1,f2,hk,d0,dn,kp.call,ko.call,hm,cR,dZ,ar,az]
   ·rw[p3,aQ]at kp;have lS:¬(j:Int)<0:=by omega
    simp only[rL',aa,simprocAttr,f1,f2,hk,d0,dn,kp.call,ko.call,lS,aK,aJ];refine gA (ps:=[(0,1),(0,2),(0,4),(0,5),(0,6),(0,7),(0,9),(1,9),(2,9),(3,4),(3,5),(3,6),(3,7),(3,9),(4,9),(5,9),(6,9),(7,9)]) rfl ?_;simp only[rL',aa,simprocAttr,cW,bt,dW,chunk,Md,fT,eN,hlen,aE];refine⟨by simp only[iu,rL,lJ,fo,mem,keys,ix,cw,cp,cy,aE,aG,rL',aa,simprocAttr,bw,bh],?_⟩;by_cases c1:p.node=0
    ·have d1:=bI c1;have hm:bJ s x t m=.inl 7:=by
      unfold bJ;rw[aw (by simp[fg,hk,o0,n0]),aw (by rw[p3];omega),aw (by simp[hk]),aw (by simp[hk]),p3,aQ];simp only[bY,aK];rw[aW hk,aW c1]
     simp only[rL',aa,simprocAttr,hk,d1,hm,cR,dZ,ar,az]
    ·have hm:bJ s x t m=.inr ⟨t.pods.set j {p with node:=0},t.pre,t.eW⟩:=by
      unfold bJ;rw[aw (by simp[fg,hk,o0,n0]),aw (by rw[p3];omega),aw (by simp[hk]),aw (by simp[hk]),p3,aQ];simp only[bY,aK];rw[aW hk,aw c1]
     have e9:=g3 t.pods j {p with node:=0};simp only[aJ]at e9;rw[hm];simp only[rL',aa,simprocAttr,hk,c1,n0,lS,hj,aK,aJ,kw.call,e9,cR,ar]
  ·have hm:bJ s x t m=.inl 1:=by
    unfold bJ;rw[aW (by simp[fg,hk,n0])]
   simp only[rL',aa,simprocAttr,f1,f2,hk,d0,n0,hm,cR,dZ,ar,az]
 ·have hm:bJ s x t m=.inl 1:=by
   unfold bJ;rw[aW (by simp[fg,hk,o0])]
  simp only[rL',aa,simprocAttr,f1,f2,hk,o0,hm,cR,dZ,ar,az]
end
end
section
section
variable{T:cL}
set_option maxRecDepth 100000 in
set_option maxHeartbeats 4000000 in
theorem N3(S:zK T)(s:bc)(x:Spec)(t:State)(m:Move)(hs:s.nodes.length<=2^29)(hx:x.aZ.length<=2^29)(ht:t.pods.length<=2^29)(hk:m.kind=4) :
    ba T 166 [aD s,bd x,ar t,du m] (cR (bJ s x t m)):=by
 refine gives S.F0 rfl ?_;have kp:=gX S.nV t m.eU (by omega);have ko:=gX S.nV t m.over (by omega);have kn:=lA S.oC s m.node (by omega);have kw:=pr S.EY x m.eU (by omega);simp only[aD,bd,ar]at kp ko kn kw;simp only[f166,rL',aa,simprocAttr,aD,bd,ar,du,bF];have f1:¬m.kind<1:=by omega
 have f2:¬4<m.kind:=by omega
 have g3:∀(l:List dx) (i:Nat) (q:dx),(l.map aJ).set i (aJ q)=(l.set i q).map aJ:=fun l i q=>(List.map_set).symm;have hlen:t.pods.length<=2^30:=by omega
 have Md:cq 8 []=true:=rfl;rcases ca m.eU t.pods 0 with⟨p1,p2⟩|⟨j,p,aK,p2,p3,hj⟩
 ·rw[p2]at kp;have hm:bJ s x t m=.inl 4:=by
   unfold bJ;rw[aw (by simp[fg,hk]),aW (by rw[p2];decide)]
  simp only[rL',aa,simprocAttr,f1,f2,hk,kp.call,ko.call,hm,cR,dZ,ar,az]
 ·rw[p3,aQ]at kp;have lS:¬(j:Int)<0:=by omega
  rcases ig m.node s.nodes 0 with⟨e1,e2⟩|⟨a,n,e1,e2,e3⟩
  ·rw[e2]at kn;have hm:bJ s x t m=.inl 4:=by
    unfold bJ;rw[aw (by simp[fg,hk]),aw (by rw[p3];omega),aW ⟨by omega,e1⟩]
   simp only[rL',aa,simprocAttr,f1,f2,hk,kp.call,ko.call,kn.call,lS,hm,cR,dZ,ar,az]
  ·rw[e3,aQ]at kn;have G4:¬(a:Int)<0:=by omega
   rcases ca m.over t.pods 0 with⟨q1,q2⟩|⟨k,q,zE,q2,q3,Mz⟩
   ·rw[q2]at ko;have hm:bJ s x t m=.inl 4:=by
     unfold bJ;rw[aw (by simp[fg,hk]),aw (by rw[p3];omega),aw (by rw[e2];simp),aW ⟨hk,by rw[q2];decide⟩]
    simp only[rL',aa,simprocAttr,f1,f2,hk,kp.call,ko.call,kn.call,lS,G4,hm,cR,dZ,ar,az]
   ·rw[q3,aQ]at ko;have w7:¬(k:Int)<0:=by omega
    simp only[rL',aa,simprocAttr,f1,f2,hk,kp.call,ko.call,kn.call,lS,G4,w7,aK,aJ];refine gA (ps:=[(0,1),(0,2),(0,4),(0,5),(0,6),(0,7),(0,9),(1,9),(2,9),(3,4),(3,5),(3,6),(3,7),(3,9),(4,9),(5,9),(6,9),(7,9)]) rfl ?_;simp only[rL',aa,simprocAttr,cW,bt,dW,chunk,Md,fT,eN,hlen,aE];refine⟨by simp only[iu,rL,lJ,fo,mem,keys,ix,cw,cp,cy,aE,aG,rL',aa,simprocAttr,bw,bh],?_⟩;refine(eg rfl).2 ?_;by_cases c1:p.node=0
    ·have d1:=bI c1;by_cases c0:j=k
     ·have dj:=bI c0;have hm:bJ s x t m=.inl 7:=by
       unfold bJ;rw[aw (by simp[fg,hk]),aw (by rw[p3];omega),aw (by rw[e2];simp),aw (by rw[q3];omega),p3,q3,aQ,aQ];simp only[bY,aK,zE];rw[aw (by omega),aw (by omega),aW hk,aW c0]
      simp only[rL',aa,simprocAttr,hk,lS,w7,hj,Mz,aK,zE,aJ,kh,d1,dj,hm,cR,dZ,ar,az]
     ·by_cases c2:q.node=m.node
      ·have d2:=bI c2;have hm:bJ s x t m=.inr ⟨(t.pods.set k {q with node:=0}).set j (eH x p m.node),IntKind.i64.wrap (t.pre+1),t.eW⟩:=by
        unfold bJ;rw[aw (by simp[fg,hk]),aw (by rw[p3];omega),aw (by rw[e2];simp),aw (by rw[q3];omega),p3,q3,aQ,aQ];simp only[bY,aK,zE];rw[aw (by omega),aw (by omega),aW hk,aw c0,aw (by simp[c2]),aw (by simp[c1])]
       have pC:=oM p2;have Qp:(t.pods.set k {q with node:=0})[j]? =some p:=by
        rw[List.getElem?_set_ne (fun h=>c0 h.symm)];exact aK
       have ek:=g3 t.pods k {q with node:=0};simp only[aJ]at ek;rw[hm];rcases kF m.eU x.aZ 0 with⟨w1,w2⟩|⟨b,w,w0,w1,w2⟩
       ·rw[w2]at kw;have hc:eH x p m.node={p with node:=m.node}:=by
         unfold eH;rw[pC,w1]
        have e9:=g3 (t.pods.set k {q with node:=0}) j {p with node:=m.node};simp only[aJ]at e9;rw[hc];simp only[rL',aa,simprocAttr,hk,lS,w7,hj,Mz,aK,zE,aJ,kh,d1,c0,d2,ek,Qp,kw.call,e9,cR,ar]
       ·rw[w2,aQ]at kw;have Az:(0:Int)<=(b:Int):=by omega
        cases jb:w.stay with
        |false =>
         have hc:eH x p m.node={p with node:=m.node}:=by
          unfold eH;rw[pC,w1];dsimp only;rw[aw (by rw[jb];decide)]
         have e9:=g3 (t.pods.set k {q with node:=0}) j {p with node:=m.node};simp only[aJ]at e9;rw[hc];simp only[rL',aa,simprocAttr,hk,lS,w7,hj,Mz,aK,zE,aJ,kh,d1,c0,d2,ek,Qp,kw.call,Az,w0,cg,jb,e9,cR,ar]
        |true =>
         have hc:eH x p m.node={p with node:=m.node,jV:=w.jV}:=by
          unfold eH;rw[pC,w1];dsimp only;rw[aW jb]
         have e9:=g3 (t.pods.set k {q with node:=0}) j {p with node:=m.node,jV:=w.jV};simp only[aJ]at e9;have gs:∀v:List PV,(((t.pods.set k {q with node:=0}).map aJ).set j v)[j]? =some v:=fun v=>by
          rw[kM (by rw[al,kh];exact hj)]
         have ss:∀u v:List PV,((((t.pods.set k {q with node:=0}).map aJ).set j u).set j v)=((t.pods.set k {q with node:=0}).map aJ).set j v:=fun u v=>List.set_set ..
         rw[hc];simp only[rL',aa,simprocAttr,hk,lS,w7,hj,Mz,aK,zE,aJ,kh,d1,c0,d2,ek,Qp,kw.call,Az,w0,cg,jb,gs,ss,e9,cR,ar];refine(cz rfl).2 ?_;simp only[rL',aa,simprocAttr,hk,lS,w7,hj,Mz,aK,zE,aJ,kh,d1,c0,d2,ek,Qp,kw.call,Az,w0,cg,jb,gs,ss,e9,cR,ar]
      ·have hm:bJ s x t m=.inl 7:=by
        unfold bJ;rw[aw (by simp[fg,hk]),aw (by rw[p3];omega),aw (by rw[e2];simp),aw (by rw[q3];omega),p3,q3,aQ,aQ];simp only[bY,aK,zE];rw[aw (by omega),aw (by omega),aW hk,aw c0,aW c2]
       simp only[rL',aa,simprocAttr,hk,lS,w7,hj,Mz,aK,zE,aJ,kh,d1,c0,c2,hm,cR,dZ,ar,az]
    ·have hm:bJ s x t m=.inl 7:=by
      unfold bJ;rw[aw (by simp[fg,hk]),aw (by rw[p3];omega),aw (by rw[e2];simp),aw (by rw[q3];omega),p3,q3,aQ,aQ];simp only[bY,aK,zE];rw[aw (by omega),aw (by omega),aW hk];by_cases c0:j=k
      ·rw[aW c0]
      ·rw[aw c0];by_cases c2:q.node=m.node
       ·rw[aw (by simp[c2]),aW c1]
       ·rw[aW c2]
     simp only[rL',aa,simprocAttr,hk,lS,w7,hj,Mz,aK,zE,aJ,kh,c1,hm,cR,dZ,ar,az]
theorem EW{m:Move}(h:m.kind<1\/4<m.kind):fg m=false:=by
 have h2:¬m.kind=2:=by omega
 have h3:¬(m.kind=1\/m.kind=3):=by omega
 have h4:¬m.kind=4:=by omega
 simp only[fg,h2,h3,h4,aI,p9]
theorem x9{s:bc}{x:Spec}{t:State}{m:Move}(h:m.kind<1\/4<m.kind):bJ s x t m=.inl 1:=by
 unfold bJ;rw[aW (EW h)]
set_option maxRecDepth 100000 in
set_option maxHeartbeats 4000000 in
theorem AR(S:zK T)(s:bc)(x:Spec)(t:State)(m:Move)(hs:s.nodes.length<=2^29)(hx:x.aZ.length<=2^29)(ht:t.pods.length<=2^29) :
    ba T 166 [aD s,bd x,ar t,du m] (cR (bJ s x t m)):=by
 by_cases f1:m.kind<1
 ·rw[x9 (.inl f1)];refine gives S.F0 rfl ?_;simp only[f166,rL',aa,simprocAttr,aD,bd,ar,du,bF,f1,cR,dZ,az]
 ·by_cases f2:4<m.kind
  ·rw[x9 (.inr f2)];refine gives S.F0 rfl ?_;simp only[f166,rL',aa,simprocAttr,aD,bd,ar,du,bF,f1,f2,cR,dZ,az]
  ·obtain hk|hk|hk|hk:m.kind=1\/m.kind=2\/m.kind=3\/m.kind=4:=by omega
   ·exact N0 S s x t m hs hx ht hk
   ·exact N1 S s x t m hs hx ht hk
   ·exact N2 S s x t m hs hx ht hk
   ·exact N3 S s x t m hs hx ht hk
end
end

theorem Js{s:bc}{x:Spec}{t:State}(hn:s.nodes.length<=500)(AB:t.pods.length<=500):(mi s x t).length<=2^29:=by
 have lp:(nW (t.pods.map dx.id)).length<=500:=by have:=tx (t.pods.map dx.id);rw[al]at this;omega
 have ln:(nW (s.nodes.map Node.id)).length<=500:=by have:=tx (s.nodes.map Node.id);rw[al]at this;omega
 exact cQ (rf ..) (oh _ _ lp ln)
def l19a:List (Nat×bg):=[(120,f120),(16,f16),(54,f54),(55,f55),(68,f68),(69,f69),(70,f70),(71,f71),(72,f72),(76,f76),(77,f77),(78,f78),(79,f79),(80,f80),(81,f81),(82,f82),(83,f83),(84,f84),(85,f85),(86,f86),(87,f87),(88,f88),(89,f89),(90,f90),(91,f91),(102,f102),(105,f105),(121,f121),(122,f122),(140,f140),(141,f141),(142,f142),(143,f143),(144,f144),(145,f145),(148,f148),(150,f150),(151,f151),(152,f152),(153,f153),(154,f154),(155,f155),(156,f156),(157,f157),(158,f158),(159,f159),(160,f160),(164,f164),(165,f165),(166,f166),(167,f167),(169,f169),(170,f170),(171,f171),(172,f172),(173,f173),(174,f174),(175,f175),(176,f176),(177,f177),(178,f178),(179,f179),(180,f180),(181,f181),(183,f183),(184,f184),(185,f185),(186,f186),(187,f187),(189,f189),(209,f209),(210,f210),(211,f211),(212,f212),(213,f213),(214,f214),(215,f215),(216,f216),(217,f217),(218,f218),(219,f219),(220,f220),(221,f221),(222,f222),(223,f223),(224,f224),(225,f225),(226,f226),(227,f227),(228,f228),(229,f229),(233,f233),(234,f234),(235,f235),(236,f236),(237,f237),(238,f238),(239,f239),(240,f240),(242,f242),(243,f243),(244,f244),(245,f245),(246,f246),(248,f248),(255,f255),(257,f257),(258,f258),(259,f259),(260,f260),(261,f261),(264,f264),(282,f282),(287,f287)]
def p19a:List (Nat×Ge):=[(103,LL),(256,sx),(266,zV),(277,iT 4),(279,iT 8),(281,om),(290,qE mostL),(291,qE leastL),(293,oU)]
def T19a:cL:=M3 l19a [16,54,55,77,78,79,214,215,216,242,266,281,293] [143,238,260,282,287,290,291] [277,279] [122,233] p19a
theorem M4:ba T19a 122 [] (.bool true):=⟨rfl,rfl,none,BS (k:=200) (by decide +kernel)⟩
theorem QN:wB T19a where
 QC:={
  s6:=⟨⟨⟨rfl,rfl,rfl,rfl,rfl⟩,⟨rfl,rfl,rfl,rfl,rfl⟩,⟨rfl,rfl,rfl⟩,⟨rfl,rfl,rfl,rfl,rfl⟩⟩,⟨rfl,rfl,rfl,rfl,rfl⟩,⟨rfl,rfl,rfl,rfl,rfl⟩,⟨rfl,rfl,rfl,rfl,rfl⟩,⟨rfl,rfl,rfl,rfl,rfl⟩,⟨rfl,rfl,rfl,rfl,rfl⟩,rfl⟩
  s8:=⟨⟨rfl,rfl,rfl,rfl,⟨rfl,rfl,rfl,rfl,rfl⟩⟩,⟨rfl,rfl,rfl,rfl,rfl⟩,⟨rfl,rfl,rfl,rfl,rfl⟩,⟨rfl,rfl,rfl,rfl,rfl⟩,⟨rfl,rfl,rfl⟩,⟨rfl,rfl,rfl⟩,rfl,rfl⟩
  F1:=⟨rfl,rfl,rfl,rfl,rfl⟩
  Aw:=PY rfl rfl
  Qf:=⟨rfl,rfl,rfl,rfl,rfl⟩
  J3:=⟨rfl,rfl,rfl,rfl,rfl⟩
  DI:=⟨rfl,rfl,rfl,rfl,rfl⟩
  K8:=⟨rfl,rfl,rfl,rfl,rfl⟩
  Qg:=⟨rfl,rfl,rfl,rfl,rfl⟩
  Lt:=⟨rfl,rfl,rfl,rfl,rfl⟩
  Qh:=⟨rfl,rfl,rfl,rfl,rfl⟩
  Oy:=⟨rfl,rfl,rfl,rfl,rfl⟩
  Oz:=⟨rfl,rfl,rfl,rfl,rfl⟩
  OA:=⟨rfl,rfl,rfl,rfl,rfl⟩
  OB:=⟨rfl,rfl,rfl,rfl,rfl⟩
  OC:=⟨rfl,rfl,rfl,rfl,rfl⟩
  OD:=⟨rfl,rfl,rfl,rfl,rfl⟩
  OE:=⟨rfl,rfl,rfl,rfl,rfl⟩}
 m:=⟨⟨⟨rfl,rfl,rfl,rfl,rfl⟩,rfl,⟨rfl,rfl,rfl,rfl,rfl⟩,⟨rfl,rfl,rfl,rfl,rfl⟩⟩,⟨rfl,rfl,rfl,rfl,rfl⟩,⟨rfl,rfl,rfl,rfl,rfl⟩,⟨rfl,rfl,rfl,rfl,rfl⟩,⟨rfl,rfl,rfl,rfl⟩,⟨rfl,rfl,rfl,rfl,rfl⟩,⟨rfl,rfl,rfl⟩⟩
 Ow:=⟨rfl,rfl,rfl,rfl,rfl⟩
 Ox:=⟨rfl,rfl,rfl,rfl,rfl⟩
 w6:=⟨rfl,rfl,rfl,rfl,rfl⟩
 OG:=⟨rfl,rfl,rfl,rfl,rfl⟩
 OH:=⟨rfl,rfl,rfl,rfl,rfl⟩
theorem QJ:D7 T19a:=⟨⟨⟨rfl,rfl,rfl,rfl⟩,⟨rfl,rfl,rfl,rfl,rfl⟩,PY rfl rfl,⟨rfl,rfl,rfl,rfl⟩,⟨rfl,rfl,rfl,rfl⟩,⟨rfl,rfl,rfl,rfl⟩,⟨rfl,rfl,rfl,rfl,rfl⟩,⟨rfl,rfl,rfl,rfl,rfl⟩,⟨rfl,rfl,rfl,rfl,rfl⟩,⟨rfl,rfl,rfl,rfl,rfl⟩,⟨rfl,rfl,rfl,rfl,rfl⟩,⟨rfl,rfl,rfl,rfl,rfl⟩,⟨⟨rfl,rfl,rfl,rfl,rfl⟩,⟨rfl,rfl,rfl,rfl,rfl⟩,⟨rfl,rfl,rfl,rfl,rfl⟩,⟨rfl,rfl,rfl,rfl,rfl⟩⟩,⟨rfl,rfl,rfl,rfl,rfl⟩⟩,⟨rfl,rfl,rfl,rfl,rfl⟩,⟨rfl,rfl,rfl,rfl,rfl⟩,⟨⟨rfl,rfl,rfl,rfl,rfl⟩,rfl,⟨rfl,rfl,rfl,rfl,rfl⟩,⟨rfl,rfl,rfl,rfl,rfl⟩⟩⟩
theorem QK:xE T19a where
 k:={
  s:={
   s:=QN
   Hj:=⟨rfl,rfl,rfl,rfl⟩
   Mo:=⟨rfl,rfl,rfl,rfl⟩
   Hk:=⟨rfl,rfl,rfl,rfl⟩
   Fu:=rfl
   FF:=rfl
   Ft:=rfl
   FE:=rfl
   Ov:=⟨rfl,rfl,rfl,rfl,rfl⟩
   Ot:=⟨rfl,rfl,rfl,rfl,rfl⟩
   Ou:=⟨rfl,rfl,rfl,rfl,rfl⟩}
  f:=⟨⟨⟨rfl,rfl,rfl,rfl,rfl⟩,rfl,⟨rfl,rfl,rfl,rfl,rfl⟩,⟨rfl,rfl,rfl,rfl,rfl⟩⟩,⟨rfl,rfl,rfl,rfl,rfl⟩,⟨rfl,rfl,rfl,rfl,rfl⟩,⟨rfl,rfl,rfl,rfl,rfl⟩,rfl⟩
  K6:=⟨rfl,rfl,rfl,rfl,rfl⟩
  F3:=⟨rfl,rfl,rfl,rfl,rfl⟩
  Ls:=rfl
  RB:=⟨rfl,rfl,rfl,rfl⟩
  RC:=⟨rfl,rfl,rfl,rfl⟩}
 f:=QJ
 K9:=⟨rfl,rfl,rfl,rfl,rfl⟩
 O3:=⟨rfl,rfl,rfl⟩
 K7:=⟨rfl,rfl,rfl,rfl,rfl⟩
 Mt:=⟨rfl,rfl,rfl⟩
 Hm:=⟨rfl,rfl,rfl,rfl,rfl⟩
theorem Jj:Lg T19a where
 d:={
  w:={
   r:=⟨⟨rfl,rfl,rfl,rfl,rfl⟩,⟨rfl,rfl,rfl,rfl,rfl⟩,⟨rfl,rfl,rfl,rfl,rfl⟩,⟨rfl,rfl,rfl,rfl,rfl⟩⟩
   s6:=⟨⟨rfl,rfl,rfl,rfl,rfl⟩,⟨rfl,rfl,rfl,rfl,rfl⟩,⟨rfl,rfl,rfl,rfl,rfl⟩,⟨rfl,rfl,rfl,rfl,rfl⟩,⟨rfl,rfl,rfl,rfl,rfl⟩,⟨rfl,rfl,rfl,rfl,rfl⟩,⟨rfl,rfl,rfl,rfl,rfl⟩,⟨rfl,rfl,rfl,rfl,rfl⟩,⟨rfl,rfl,rfl,rfl,rfl⟩,rfl⟩
   JX:=⟨rfl,rfl,rfl,rfl,rfl⟩
   JY:=⟨rfl,rfl,rfl,rfl,rfl⟩
   JZ:=⟨rfl,rfl,rfl,rfl,rfl⟩
   At:=⟨rfl,rfl,rfl,rfl,rfl⟩
   K3:=⟨rfl,rfl,rfl,rfl,rfl⟩
   K4:=⟨rfl,rfl,rfl,rfl,rfl⟩
   w5:=⟨rfl,rfl,rfl,rfl,rfl⟩
   qO:=⟨rfl,rfl,rfl,rfl,rfl⟩
   On:=⟨rfl,rfl,rfl,rfl,rfl⟩}
  K2:=⟨rfl,rfl,rfl,rfl,rfl⟩
  nV:=⟨rfl,rfl,rfl,rfl,rfl⟩
  Ol:=⟨rfl,rfl,rfl,rfl,rfl⟩}
 Hh:=⟨rfl,rfl,rfl,rfl,rfl⟩
 Om:=⟨rfl,rfl,rfl,rfl,rfl⟩
theorem B6(s:bc)(x:Spec)(D:Nat)(hD:D<=40)(hs:s.wf)(hx:x.wf)(l1:s.nodes.length<=40)(l2:s.aU.length<=40)(l3:s.pods.length<=40)(l4:x.aZ.length<=40):ba T19a 187 [aD s,bd x,.int .i64 (D:Nat),.int .i64 200] (.tuple [.bool (iX s x D 200).1,.bool (iX s x D 200).2]):=by
 have kd:∀t,Rs s t->∀m:Move,m.wf->ba T19a 181 [aD s,bd x,ar t,du m] (cR (nS s x t m)):=fun t R m hm=>GU Jj.d s x t m (AR ⟨⟨rfl,rfl,rfl,rfl,rfl⟩,⟨rfl,rfl,rfl,rfl,rfl⟩,⟨rfl,rfl,rfl,rfl,rfl⟩,⟨rfl,rfl,rfl,rfl,rfl⟩⟩ s x t m (by omega) (by omega) (by rw[R.2];omega)) (by omega) (by omega) (by rw[R.2];omega) hx.1 R.1.1 hm;exact CJ (most:=200) ⟨rfl,rfl,rfl,rfl,rfl⟩ hs hx.1 (by omega) (uC Jj.Hh s (by omega)) (zx Jj.d.w s x (bR s) (by omega) (by omega) (by simp only[bR];omega) hs.2.2) (fun t R=>Jt ⟨rfl,rfl,rfl,rfl,rfl⟩ ⟨rfl,rfl,rfl,rfl,rfl⟩ (kd t R) hs R.1.1 (by omega) (by rw[R.2];omega)) (fun t R=>Kv ⟨rfl,rfl,rfl,rfl,rfl⟩ ⟨rfl,rfl,rfl,rfl,rfl⟩ ⟨rfl,rfl,rfl,rfl,rfl⟩ rfl t (by rw[R.2];omega) R.1.1) (fun t R=>wO ⟨rfl,rfl,rfl,rfl,rfl⟩ ⟨rfl,rfl,rfl,rfl,rfl⟩ x t (by omega) (by rw[R.2];omega)) (fun t R=>Js (by omega) (by rw[R.2];omega)) (by decide) (by decide)
set_option maxRecDepth 100000 in
set_option maxHeartbeats 16000000 in
theorem law19a(s:bc)(x:Spec)(depth steps:Int)(hs:s.wf)(hx:x.wf)(_:mw depth)(_:mw steps):ba T19a 120 [aD s,bd x,.int .i64 depth,.int .i64 steps] (.bool true):=by
 refine gives (f:=f120) ⟨rfl,rfl,rfl,rfl,rfl⟩ rfl ?_;have kf:=CR (T:=T19a) ⟨rfl,rfl,rfl,rfl,rfl⟩ ⟨rfl,rfl,rfl,rfl,rfl⟩ s x depth steps;simp only[aD,bd]at kf;cases hf:zr s x depth steps
 ·rw[hf]at kf;simp only[f120,rL',aa,simprocAttr,M4.call,aD,bd,kf.call]
 ·rw[hf]at kf;unfold zr at hf;simp only[H4,bq,bO]at hf;obtain⟨⟨l1,l2,l3⟩,Vy,Vz,VB,VC,VD⟩:=hf;simp only[f120,rL',aa,simprocAttr,M4.call,aD,bd,kf.call];have z0:((0:Nat):Int)=0:=rfl;obtain⟨p,hp,kp⟩:=KN QK s x depth steps hs hx.1 (by omega) (by omega) (by omega) (by omega);have vQ:=EM (T:=T19a) ⟨⟨rfl,rfl,rfl,rfl,rfl⟩,⟨rfl,rfl,rfl,rfl,rfl⟩,⟨rfl,rfl,rfl,rfl,rfl⟩,⟨rfl,rfl,rfl,rfl,rfl⟩,⟨rfl,rfl,rfl,rfl,rfl⟩,⟨rfl,rfl,rfl,rfl,rfl⟩⟩ ⟨rfl,rfl,rfl,rfl,rfl⟩ ⟨rfl,rfl,rfl,rfl,rfl⟩ s x (by omega);have kt:=IC (T:=T19a) ⟨rfl,rfl,rfl,rfl,rfl⟩ ⟨rfl,rfl,rfl,rfl,rfl⟩ ⟨rfl,rfl,rfl⟩ (jk s x) (Ai s x);rw[show jO (jk s x)=.tuple [.int .i64 (vW (jk s x)),.int .i64 (vX (jk s x))] by cases jk s x <;>rfl]at vQ;simp only[aD,bd]at kp;cases hp with
  | @fair q hq =>
   obtain⟨c,a⟩:=q;have hc:=Ai s x c a hq;have Lw:¬c=0:=by omega
   rw[hq]at vQ kt;simp only[vW,vX]at vQ kt;by_cases ha:a<0
   ·simp only[jQ,aW ha,cf,aD,bd,il,az,z0]at vQ kt kp;simp only[rL',aa,simprocAttr,kp.call,vQ.call,Lw,kt.call,z0]
   ·simp only[jQ,aw ha,gk,aD,bd,il,az,z0]at vQ kt kp;simp only[rL',aa,simprocAttr,kp.call,vQ.call,Lw,kt.call,z0]
  |DQ hq h =>
   rw[hq]at vQ;simp only[vW,vX,aD,bd]at vQ;simp only[cf,il,az,z0]at kp;by_cases c1:depth<0
   ·simp only[rL',aa,simprocAttr,kp.call,vQ.call,c1,z0]
   ·by_cases c2:40<depth
    ·simp only[rL',aa,simprocAttr,kp.call,vQ.call,c1,c2,z0]
    ·by_cases c3:steps<0
     ·simp only[rL',aa,simprocAttr,kp.call,vQ.call,c1,c2,c3,z0]
     ·have c4:200000<steps:=by omega
      simp only[rL',aa,simprocAttr,kp.call,vQ.call,c1,c2,c3,c4,z0]
  |T1 hq h1 h2 J8 h3 h4 =>
   rw[hq]at vQ;simp only[vW,vX,aD,bd]at vQ;simp only[il,az,z0]at kp;have c1:¬depth<0:=by omega
   have c2:¬40<depth:=by omega
   obtain⟨D,rfl⟩:∃D:Nat,depth=(D:Int):=⟨depth.toNat,by omega⟩;have Se:¬(oW s x (bR s)).1=0:=by
    rcases mT s x (bR s)with⟨w1,w2⟩|⟨w1,w2,w3⟩
    ·rw[J8]at w1;simp at w1
    ·exact w3
   have kq:=B6 s x D (by omega) hs hx (by omega) (by omega) (by omega) (by omega);have hr:iX s x D 200=(false,true):=by unfold iX;rw[aw Se]
   rw[hr]at kq;simp only[aD,bd]at kq;have c3:¬steps<0:=by omega
   have c4:¬200000<steps:=by omega
   simp only[rL',aa,simprocAttr,kp.call,vQ.call,c1,c2,c3,c4,kq.call,z0]
  | @some N kind v n hq h1 h2 hN Vw J8 hv =>
   subst hN;rw[hq]at vQ;simp only[vW,vX,aD,bd]at vQ;have c1:¬depth<0:=by omega
   have c2:¬40<depth:=by omega
   have c3:¬(N:Int)<0:=by omega
   have c4:¬200000<(N:Int):=by omega
   have c5:¬(n:Int)<0:=by omega
   rcases hv.kind with rfl|rfl|rfl
   ·obtain⟨t,hw,hg,hle,UG⟩:=uE (s:=s) (x:=x) (steps:=N) h1 hv;have Ja:=H7 hs hx.1 h1 hv;have c6:¬(N:Int)<(n:Int):=by omega
    have e:Ea s x v=(t,v.length,0):=by
     unfold Ea;rw[aW J8,hw];rfl
    have kr:=IG Jj s x v (fun t m ht=>AR ⟨⟨rfl,rfl,rfl,rfl,rfl⟩,⟨rfl,rfl,rfl,rfl,rfl⟩,⟨rfl,rfl,rfl,rfl,rfl⟩,⟨rfl,rfl,rfl,rfl,rfl⟩⟩ s x t m (by omega) (by omega) ht) (by omega) (by omega) (by omega) (by omega) hs hx Ja;have ht:=(Bp s x hx.1 v (bR s) 0 Ja J8 hs.2.2).2.2;rw[hw]at ht;simp only[bR]at ht;have So:=wO (T:=T19a) ⟨rfl,rfl,rfl,rfl,rfl⟩ ⟨rfl,rfl,rfl,rfl,rfl⟩ x t (by omega) (by omega);rw[hg]at So;rw[e]at kr;simp only[vH,aD,bd,ar]at kr So;simp only[il]at kp;simp only[rL',aa,simprocAttr,kp.call,vQ.call,c1,c2,c3,c4,c5,c6,kr.call,So.call,hle,al]
   ·obtain⟨UG,rfl⟩:=CG h1 hv;have c6:¬(N:Int)<(n:Int):=by omega
    obtain⟨D,rfl⟩:∃D:Nat,depth=(D:Int):=⟨depth.toNat,by omega⟩;have Se:(oW s x (bR s)).1=0:=by
     rcases mT s x (bR s)with⟨w1,w2⟩|⟨w1,w2,w3⟩
     ·exact w2
     ·rw[J8]at w1;simp at w1
    have kq:=B6 s x D (by omega) hs hx (by omega) (by omega) (by omega) (by omega);have hr:(iX s x D 200).1=false:=by
     cases hb:(iX s x D 200).1 with
     |false=>rfl
     |true =>
      obtain⟨_,ms,t,b,c,d⟩:=(Fz (most:=200) hs hx.1 Se).1 hb;have:=Fs hs hx.1 (EO hq) h1 hv ms (by omega) (by rw[c]);rw[c]at this;exact absurd d this
    rw[hr]at kq;simp only[aD,bd]at kq;simp only[il,az]at kp;cases he:(iX s x D 200).2 with
    |false =>
     rw[he]at kq;simp only[rL',aa,simprocAttr,kp.call,vQ.call,c1,c2,c3,c4,c5,c6,kq.call,z0]
    |true =>
     rw[he]at kq;simp only[rL',aa,simprocAttr,kp.call,vQ.call,c1,c2,c3,c4,c5,c6,kq.call,z0]
   ·obtain⟨rfl,rfl⟩:=Bi hv;have c6:¬(n:Int)<(n:Int):=by omega
    simp only[il,az]at kp;simp only[rL',aa,simprocAttr,kp.call,vQ.call,c1,c2,c3,c4,c5,c6,z0]
end Go.Proofs.YtkjehofblipcaaaGreatDoor.Ab
