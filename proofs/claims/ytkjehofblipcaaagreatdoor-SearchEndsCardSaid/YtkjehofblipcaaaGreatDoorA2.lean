/- The layer, part 2: Co05, Sp5, Sp5b, Sp5d, Ab56, Co08, Sp8, Co09, Sp9, Sp8b, Co67, Sp7, Sp1, Sp1b, Ab54, Sp6, Sp6b, Co11, Sp11, Ab59, Sp11f, Co03, Sp3, Sp3b, Sp3c. -/
import Derived.Test.YtkjehofblipcaaaGreatDoorA1
set_option linter.unusedVariables false
set_option linter.unusedSimpArgs false
namespace Go.Proofs.YtkjehofblipcaaaGreatDoor.Ab
open Go
abbrev aR(d:Nat)(o:fE)(l:List Nat):aV:=⟨some d,o,none,l⟩
abbrev N8(o:fE)(l:List Nat):aV:=⟨none,o,none,l⟩
abbrev ej(d k:Nat)(b:Bool)(o:fE)(l:List Nat):aV:=⟨some d,o,some (k,b),l⟩
abbrev aq(d s:Nat)(l:List Nat):aV:=aR d (.mv (.t s)) l
abbrev cR(d:Nat)(n:Int)(l:List Nat):aV:=aR d (.mv (.c (.pv (.int .i64 n)))) l
abbrev fV(d:Nat)(b:Bool)(l:List Nat):aV:=aR d (.mv (.c (.pv (.bool b)))) l
abbrev jo(d:Nat)(l:List Nat):aV:=aR d (.mv (.c (.pv .dI))) l
abbrev bQ(d k s:Nat)(l:List Nat):aV:=aR d (.fieldAddr k (.t s)) l
abbrev bR(d n s:Nat)(l:List Nat):aV:=aR d (.load false n (.t s)) l
abbrev ck(d n s:Nat)(l:List Nat):aV:=aR d (.load true n (.t s)) l
abbrev dX(d:Nat)(o:BinOp)(s r:Nat)(l:List Nat):aV:=aR d (.bin o none (.t s) (.t r)) l
abbrev cM(d:Nat)(o:BinOp)(s:Nat)(n:Int)(l:List Nat):aV:=aR d (.bin o none (.t s) (.c (.pv (.int .i64 n)))) l
abbrev df(d s:Nat)(l:List Nat):aV:=aR d (.box (.t s)) l
abbrev fw(d n s r:Nat)(l:List Nat):aV:=aR d (.fC n (.t s) (.t r)) l
abbrev fu(d s k:Nat)(l:List Nat):aV:=aR d (.extract (.t s) k) l
abbrev iZ(d s r:Nat)(l:List Nat):aV:=aR d (.pick (.t s) (.t r) (.c (.pv (.bool false)))) l
abbrev jT(d s r:Nat)(l:List Nat):aV:=aR d (.pick (.t s) (.c (.pv (.bool true))) (.t r)) l
abbrev fT(d s:Nat)(l:List Nat):aV:=aR d (.len (.t s)) l
abbrev jE(d s:Nat)(l:List Nat):aV:=aR d (.jS (.t s)) l
abbrev dk(n s r:Nat)(l:List Nat):aV:=N8 (.store n (.t s) (.t r)) l
abbrev fa(d k:Nat)(b:Bool)(s:Nat)(l:List Nat):aV:=ej d k b (.mv (.t s)) l
abbrev ew(d k:Nat)(b:Bool)(n s:Nat)(l:List Nat):aV:=ej d k b (.fieldAddr n (.t s)) l
abbrev ec(d k:Nat)(b:Bool)(n s:Nat)(l:List Nat):aV:=ej d k b (.load false n (.t s)) l
abbrev IZ(d k:Nat)(b:Bool)(s r:Nat)(l:List Nat):aV:=ej d k b (.pick (.t s) (.t r) (.c (.pv (.bool false)))) l
abbrev zB(d k:Nat)(b:Bool)(n s r:Nat)(l:List Nat):aV:=ej d k b (.fC n (.t s) (.t r)) l
abbrev gD(d k:Nat)(b:Bool)(o:BinOp)(s:Nat)(n:Int)(l:List Nat):aV:=ej d k b (.bin o none (.t s) (.c (.pv (.int .i64 n)))) l
def Dv:bx :=
(.seq (.ops [
dX 12 .lss 11 10 []])
(.seq (.cond (.t 12)
.skip
(.exit 0))
(.seq (.block 1
(.seq (.ops [
fw 13 10 9 11 [],
ck 14 10 13 [0],
aR 7 (.alloc [.pv (.int .i64 0),.pv (.int .i64 0),.pv (.int .u64 0),.pv (.int .u64 0),.pv (.int .u64 0),.pv (.int .u64 0),.pv (.int .u64 0),.pv (.int .u64 0),.pv (.int .u64 0),.pv (.int .u64 0)]) [],
dk 10 7 14 [2,1,0,1,2]])
(.seq (.ops [
bQ 15 0 7 [],
bR 16 1 15 [0],
aq 17 1 [],
dX 18 .eql 16 17 [1,2]])
(.cond (.t 18)
(.seq (.ops [
ck 19 10 7 [],
dk 10 4 19 [0,0],
fV 5 true [1,0,1]])
.ret)
.skip))))
(.ops [
cM 20 .add 11 1 [],
aq 11 20 [0]]))))
def f82:bf:=⟨22,[.cell 4 true 10,.t 5],
(.seq (.ops [
df 2 0 [],
aR 4 (.alloc [.pv (.int .i64 0),.pv (.int .i64 0),.pv (.int .u64 0),.pv (.int .u64 0),.pv (.int .u64 0),.pv (.int .u64 0),.pv (.int .u64 0),.pv (.int .u64 0),.pv (.int .u64 0),.pv (.int .u64 0)]) [],
fV 5 false []])
(.seq (.seq (.ops [
bQ 8 0 2 [],
bR 9 1 8 [0],
fT 10 9 [1],
cR 11 0 []])
(.block 0
(.loop Dv)))
(.seq (.ops [
aR 21 (.build [.pv (.int .i64 0),.pv (.int .i64 0),.pv (.int .u64 0),.pv (.int .u64 0),.pv (.int .u64 0),.pv (.int .u64 0),.pv (.int .u64 0),.pv (.int .u64 0),.pv (.int .u64 0),.pv (.int .u64 0)] []) [],
dk 10 4 21 [0,0],
fV 5 false [1,0,1]])
.ret)))⟩
def Dw:bx :=
(.seq (.ops [
dX 12 .lss 11 10 []])
(.seq (.cond (.t 12)
.skip
(.exit 0))
(.seq (.block 1
(.seq (.ops [
fw 13 6 9 11 [],
ck 14 6 13 [0],
aR 7 (.alloc [.pv (.int .i64 0),.pv (.int .u64 0),.pv (.int .u64 0),.pv (.int .u64 0),.pv (.int .u64 0),.pv (.bool false)]) [],
dk 6 7 14 [2,1,0,1,2]])
(.seq (.ops [
bQ 15 0 7 [],
bR 16 1 15 [0],
aq 17 1 [],
dX 18 .eql 16 17 [1,2]])
(.cond (.t 18)
(.seq (.ops [
ck 19 6 7 [],
dk 6 4 19 [0,0],
fV 5 true [1,0,1]])
.ret)
.skip))))
(.ops [
cM 20 .add 11 1 [],
aq 11 20 [0]]))))
def f83:bf:=⟨22,[.cell 4 true 6,.t 5],
(.seq (.ops [
df 2 0 [],
aR 4 (.alloc [.pv (.int .i64 0),.pv (.int .u64 0),.pv (.int .u64 0),.pv (.int .u64 0),.pv (.int .u64 0),.pv (.bool false)]) [],
fV 5 false []])
(.seq (.seq (.ops [
bQ 8 0 2 [],
bR 9 1 8 [0],
fT 10 9 [1],
cR 11 0 []])
(.block 0
(.loop Dw)))
(.seq (.ops [
aR 21 (.build [.pv (.int .i64 0),.pv (.int .u64 0),.pv (.int .u64 0),.pv (.int .u64 0),.pv (.int .u64 0),.pv (.bool false)] []) [],
dk 6 4 21 [0,0],
fV 5 false [1,0,1]])
.ret)))⟩
def f153:bf:=⟨19,[.t 2],
(.seq (.ops [
df 1 0 [],
fV 2 false []])
(.seq (.ops [
bQ 3 0 1 [],
bR 4 1 3 [0],
fT 5 4 [1],
cM 6 .leq 5 40 [2],
aq 7 6 [3],
ew 8 7 true 1 1 [4],
ec 9 7 true 1 8 [5,4],
ej 10 7 true (.len (.t 9)) [6,4],
gD 11 7 true .leq 10 40 [7,4],
iZ 12 7 11 [4,8],
aq 13 12 [9,4],
ew 14 13 true 2 1 [10],
ec 15 13 true 1 14 [11,10],
ej 16 13 true (.len (.t 15)) [12,10],
gD 17 13 true .leq 16 40 [13,10],
iZ 18 13 17 [10,14],
aq 2 18 [15,10,0,1,2,3,4,5,6,7,8,9,10,11,12,13,14,15]])
.ret))⟩
def f164:bf:=⟨8,[.cell 2 true 3],
(.seq (.ops [
df 1 0 [],
aR 2 (.alloc [.bu,.pv (.int .i64 0),.pv (.int .i64 0)]) []])
(.seq (.ops [
aR 3 (.cr 8 0 [] []) [],
bQ 4 2 1 [],
bR 5 1 4 [1],
aR 6 (.append 8 64 (.t 3) (.t 5)) [0,2],
aR 7 (.build [.bu,.pv (.int .i64 0),.pv (.int .i64 0)] [(0,1,(.t 6))]) [3],
dk 3 2 7 [4,3,0,1,2,3,4]])
.ret))⟩
def uv:bx :=
(.seq (.seq (.ops [
aq 8 5 [],
bQ 9 0 2 [],
bR 10 1 9 [1],
fT 11 10 [2],
dX 12 .lss 8 11 [0,3]])
(.cond (.t 12)
.skip
(.exit 0)))
(.seq (.block 1
(.seq (.draw [
ck 15 3 3 [],
bQ 16 0 2 [],
bR 17 1 16 [1],
aq 18 5 [],
fw 19 6 17 18 [2,3],
bQ 20 0 19 [4],
bR 21 1 20 [5],
aR 22 (.call 167 [.t 15,.t 21]) [0,6],
aq 6 22 [7,7,0,1,2,3,4,5,6,7]])
(.seq (.seq (.ops [
aq 23 6 [],
cM 24 .lss 23 0 [0]])
(.cond (.t 24)
(.seq (.ops [
fV 4 false []])
.ret)
.skip))
(.seq (.ops [
bQ 25 0 3 [],
bR 26 1 25 [0],
aq 27 6 [],
fw 28 8 26 27 [1,2],
ck 29 8 28 [3],
aR 7 (.alloc [.pv (.int .i64 0),.pv (.int .i64 0),.pv (.int .i64 0),.pv (.int .u64 0),.pv (.int .u64 0),.pv (.int .u64 0),.pv (.int .u64 0),.pv (.int .i64 0)]) [],
dk 8 7 29 [5,4,0,1,2,3,4,5]])
(.seq (.draw [
bQ 30 0 2 [],
bR 31 1 30 [0],
aq 32 5 [],
fw 33 6 31 32 [1,2],
bQ 34 5 33 [3],
bR 35 1 34 [4],
aq 36 35 [5],
ew 37 36 true 7 7 [6],
ec 38 36 true 1 37 [7,6],
gD 39 36 true .eql 38 0 [8,6],
fa 40 36 true 39 [9,6,6],
ew 41 40 false 3 7 [10],
ej 42 40 false (.load true 4 (.t 41)) [11,10],
ew 43 40 false 0 2 [10],
ec 44 40 false 1 43 [13,10],
fa 45 40 false 5 [10],
zB 46 40 false 6 44 45 [14,15,10],
ew 47 40 false 1 46 [16,10],
ej 48 40 false (.load true 4 (.t 47)) [17,10],
ej 49 40 false (.bin .neq (some (.plain [false,false,false,false])) (.t 42) (.t 48)) [12,18,10],
ej 50 36 true (.pick (.t 40) (.c (.pv (.bool true))) (.t 49)) [10,19,6],
iZ 51 36 50 [6,20],
aq 52 51 [21,10],
ew 53 52 false 0 2 [22],
ec 54 52 false 1 53 [23,22],
fa 55 52 false 5 [22],
zB 56 52 false 6 54 55 [24,25,22],
ew 57 52 false 5 56 [26,22],
ec 58 52 false 1 57 [27,22],
ej 59 52 false (.not (.t 58)) [28,22],
fa 60 52 false 59 [29,22,22],
ew 61 60 true 7 7 [30],
ec 62 60 true 1 61 [31,30],
gD 63 60 true .neq 62 0 [32,30],
IZ 64 52 false 60 63 [30,33,22],
jT 65 52 64 [22,34]])
(.cond (.t 65)
(.seq (.ops [
fV 4 false []])
.ret)
.skip))))))
(.ops [
aq 13 5 [],
cM 14 .add 13 1 [0],
aq 5 14 [1,0,1]])))
def f165:bf:=⟨66,[.t 4],
(.seq (.ops [
df 2 0 [],
df 3 1 [],
fV 4 false []])
(.seq (.seq (.ops [
cR 5 0 []])
(.block 0
(.loop uv)))
(.seq (.ops [
fV 4 true []])
.ret)))⟩
def y8:bx :=
(.seq (.seq (.ops [
aq 6 5 [],
bQ 7 0 2 [],
bR 8 1 7 [1],
fT 9 8 [2],
dX 10 .lss 6 9 [0,3]])
(.cond (.t 10)
.skip
(.exit 0)))
(.seq (.block 1
(.seq (.ops [
bQ 13 0 2 [],
bR 14 1 13 [0],
aq 15 5 [],
fw 16 8 14 15 [1,2],
bQ 17 0 16 [3],
bR 18 1 17 [4],
aq 19 1 [],
dX 20 .eql 18 19 [5,6]])
(.cond (.t 20)
(.seq (.ops [
aq 21 5 [],
aq 4 21 [0,0]])
.ret)
.skip)))
(.ops [
aq 11 5 [],
cM 12 .add 11 1 [0],
aq 5 12 [1,0,1]])))
def f167:bf:=⟨22,[.t 4],
(.seq (.ops [
df 2 0 [],
cR 4 0 []])
(.seq (.seq (.ops [
cR 5 0 []])
(.block 0
(.loop y8)))
(.seq (.ops [
cR 4 (-1) []])
.ret)))⟩
def f237:bf:=⟨7,[.cell 2 true 3],
(.seq (.ops [
df 1 0 [],
aR 2 (.alloc [.bu,.pv (.int .i64 0),.pv (.int .i64 0)]) []])
(.seq (.ops [
bQ 3 2 1 [],
bR 4 1 3 [0],
aR 5 (.call 279 [.t 4]) [1],
aR 6 (.build [.bu,.pv (.int .i64 0),.pv (.int .i64 0)] [(0,1,(.t 5))]) [2],
dk 3 2 6 [3,2,0,1,2,3]])
.ret))⟩
def uE:bx :=
(.seq (.ops [
dX 13 .lss 12 11 []])
(.seq (.cond (.t 13)
.skip
(.exit 0))
(.seq (.block 1
(.seq (.ops [
fw 14 6 10 12 [],
ck 15 6 14 [0],
aR 6 (.alloc [.pv (.int .i64 0),.pv (.int .u64 0),.pv (.int .u64 0),.pv (.int .u64 0),.pv (.int .u64 0),.pv (.bool false)]) [],
dk 6 6 15 [2,1,0,1,2]])
(.seq (.ops [
ck 17 3 3 [],
bQ 18 0 6 [],
bR 19 1 18 [1],
aR 20 (.call 240 [.t 17,.t 19]) [0,2],
aq 16 20 [3],
fu 21 16 0 [4],
fu 22 16 1 [4],
aR 7 (.alloc [.pv (.int .i64 0),.pv (.int .i64 0),.pv (.int .i64 0),.pv (.int .u64 0),.pv (.int .u64 0),.pv (.int .u64 0),.pv (.int .u64 0),.pv (.int .i64 0)]) [],
dk 8 7 21 [7,5,3,0,1,2,3,4,5,7],
aq 8 22 [6,8,0,1,2,3,4,5,6,7,8]])
(.seq (.ops [
aq 23 8 [],
aR 24 (.not (.t 23)) [0],
aq 25 24 [1],
ew 26 25 false 5 6 [2],
ec 27 25 false 1 26 [3,2],
ew 28 25 false 7 7 [2],
ec 29 25 false 1 28 [5,2],
gD 30 25 false .neq 29 0 [6,2],
ej 31 25 false (.bin .neq (some .bool) (.t 27) (.t 30)) [4,7,2],
jT 32 25 31 [2,8],
aq 33 32 [9,2],
ew 34 33 false 5 6 [10],
ec 35 33 false 1 34 [11,10],
fa 36 33 false 35 [12,10,10],
ew 37 36 true 3 7 [13],
ej 38 36 true (.load true 4 (.t 37)) [14,13],
ew 39 36 true 1 6 [13],
ej 40 36 true (.load true 4 (.t 39)) [16,13],
ej 41 36 true (.bin .neq (some (.plain [false,false,false,false])) (.t 38) (.t 40)) [15,17,13],
IZ 42 33 false 36 41 [13,18,10],
jT 43 33 42 [10,19]])
(.cond (.t 43)
(.seq (.ops [
fV 4 false []])
.ret)
.skip)))))
(.ops [
cM 44 .add 12 1 [],
aq 12 44 [0]]))))
def f238:bf:=⟨45,[.t 4],
(.seq (.ops [
df 2 0 [],
df 3 1 [],
fV 4 false []])
(.seq (.seq (.ops [
bQ 9 0 2 [],
bR 10 1 9 [0],
fT 11 10 [1],
cR 12 0 []])
(.block 0
(.loop uE)))
(.seq (.ops [
fV 4 true []])
.ret)))⟩
def f239:bf:=⟨139,[.cell 8 true 3,.t 9],
(.seq (.ops [
df 4 0 [],
df 5 1 [],
df 6 2 [],
df 7 3 [],
aR 8 (.alloc [.bu,.pv (.int .i64 0),.pv (.int .i64 0)]) [],
jo 9 []])
(.seq (.draw [
ck 16 3 6 [],
bQ 17 1 7 [],
bR 18 1 17 [1],
aR 19 (.call 244 [.t 16,.t 18]) [0,2],
ck 20 3 6 [],
bQ 21 3 7 [],
bR 22 1 21 [5],
aR 23 (.call 244 [.t 20,.t 22]) [4,6,3],
aq 10 19 [3,7,0,1,2,3],
aq 11 23 [7,8,0,1,2,3,4,5,6,7,8]])
(.seq (.ops [
ck 25 3 4 [],
bQ 26 2 7 [],
bR 27 1 26 [1],
aR 28 (.call 82 [.t 25,.t 27]) [0,2],
aq 24 28 [3],
fu 29 24 0 [4],
fu 30 24 1 [4],
aR 12 (.alloc [.pv (.int .i64 0),.pv (.int .i64 0),.pv (.int .u64 0),.pv (.int .u64 0),.pv (.int .u64 0),.pv (.int .u64 0),.pv (.int .u64 0),.pv (.int .u64 0),.pv (.int .u64 0),.pv (.int .u64 0)]) [],
dk 10 12 29 [7,5,3,0,1,2,3,4,5,7],
aq 13 30 [6,8,0,1,2,3,4,5,6,7,8]])
(.seq (.block 0
(.seq (.ops [
ck 32 4 7 [],
aR 33 (.call 243 [.t 32]) [0],
aR 34 (.not (.t 33)) [1],
aq 31 34 [2,1]])
(.cond (.t 31)
(.seq (.ops [
aR 35 (.build [.bu,.pv (.int .i64 0),.pv (.int .i64 0)] []) [],
aR 36 (.lr 0 (.c (.pv (.int .i64 1)))) [],
dk 3 8 35 [0,0],
aq 9 36 [1,2,0,1,2]])
.ret)
(.seq (.ops [
aq 38 10 [],
cM 39 .lss 38 0 [0],
aq 40 39 [1],
ew 41 40 false 0 7 [2],
ec 42 40 false 1 41 [3,2],
gD 43 40 false .neq 42 2 [4,2],
fa 44 40 false 43 [5,2,2],
fa 45 44 true 13 [6],
ej 46 44 true (.not (.t 45)) [7,6],
IZ 47 40 false 44 46 [6,8,2],
jT 48 40 47 [2,9],
aq 49 48 [10,6],
ew 50 49 false 0 7 [11],
ec 51 49 false 1 50 [12,11],
gD 52 49 false .eql 51 4 [13,11],
fa 53 49 false 52 [14,11,11],
fa 54 53 true 11 [15],
gD 55 53 true .lss 54 0 [16,15],
IZ 56 49 false 53 55 [15,17,11],
jT 57 49 56 [11,18],
aq 37 57 [19,15]])
(.cond (.t 37)
(.seq (.ops [
aR 58 (.build [.bu,.pv (.int .i64 0),.pv (.int .i64 0)] []) [],
aR 59 (.lr 0 (.c (.pv (.int .i64 4)))) [],
dk 3 8 58 [0,0],
aq 9 59 [1,2,0,1,2]])
.ret)
.skip)))))
(.seq (.ops [
bQ 60 0 6 [],
bR 61 1 60 [0],
aq 62 10 [],
fw 63 8 61 62 [1,2],
bQ 64 7 63 [3],
bR 65 1 64 [4],
aq 14 65 [5,0,1,2,3,4,5]])
(.seq (.ops [
bQ 66 0 6 [],
bR 67 1 66 [0],
aR 68 (.call 279 [.t 67]) [1],
bQ 69 0 6 [0,1,2],
dk 1 69 68 [3,2,2,0,1,2]])
(.seq (.ops [
bQ 70 0 6 [],
bR 71 1 70 [0],
aq 72 10 [],
fw 73 8 71 72 [1,2],
aq 15 73 [3,0,1,2,3]])
(.seq (.seq (.ops [
bQ 74 0 7 [],
bR 75 1 74 [0]])
(.block 1
(.seq (.block 5
(.seq (.block 4
(.seq (.block 3
(.seq (.block 2
(.seq (.seq (.seq (.ops [
cM 77 .eql 75 2 [],
aq 76 77 [0]])
(.cond (.t 76)
(.exit 2)
.skip))
(.seq (.seq (.ops [
cM 79 .eql 75 3 [],
aq 78 79 [0]])
(.cond (.t 78)
(.exit 3)
.skip))
(.seq (.ops [
cM 81 .eql 75 4 [],
aq 80 81 [0]])
(.cond (.t 80)
(.exit 4)
.skip))))
(.exit 5)))
(.seq (.seq (.seq (.ops [
aq 82 14 [],
cM 83 .eql 82 0 [0]])
(.cond (.t 83)
(.seq (.ops [
aR 84 (.build [.bu,.pv (.int .i64 0),.pv (.int .i64 0)] []) [],
aR 85 (.lr 0 (.c (.pv (.int .i64 7)))) [],
dk 3 8 84 [0,0],
aq 9 85 [1,2,0,1,2]])
.ret)
.skip))
(.seq (.ops [
aq 86 15 [],
jE 87 86 [0,0],
bQ 88 7 87 [1,0],
N8 (.store 1 (.t 88) (.c (.pv (.int .i64 0)))) [2,0]])
(.seq (.ops [
ck 89 3 6 [],
dk 3 8 89 [0,0],
jo 9 [1,0,1]])
.ret)))
(.exit 1))))
(.seq (.seq (.seq (.ops [
aq 90 14 [],
cM 91 .eql 90 0 [0],
aq 92 91 [1],
fa 93 92 false 14 [2],
ew 94 92 false 2 7 [2],
ec 95 92 false 1 94 [4,2],
ej 96 92 false (.bin .eql none (.t 93) (.t 95)) [3,5,2],
jT 97 92 96 [2,6]])
(.cond (.t 97)
(.seq (.ops [
aR 98 (.build [.bu,.pv (.int .i64 0),.pv (.int .i64 0)] []) [],
aR 99 (.lr 0 (.c (.pv (.int .i64 7)))) [],
dk 3 8 98 [0,0],
aq 9 99 [1,2,0,1,2]])
.ret)
.skip))
(.ops [
bQ 100 2 6 [],
bR 101 1 100 [0],
cM 102 .add 101 1 [1],
bQ 103 2 6 [0,1,2],
dk 1 103 102 [3,2,0,1,2]]))
(.exit 1))))
(.seq (.seq (.draw [
aq 104 10 [],
aq 105 11 [],
dX 106 .eql 104 105 [0,1],
aq 107 106 [2],
ew 108 107 false 0 6 [3],
ec 109 107 false 1 108 [4,3],
fa 110 107 false 11 [3],
zB 111 107 false 8 109 110 [5,6,3],
ew 112 107 false 7 111 [7,3],
ec 113 107 false 1 112 [8,3],
ew 114 107 false 2 7 [3],
ec 115 107 false 1 114 [10,3],
ej 116 107 false (.bin .neq none (.t 113) (.t 115)) [9,11,3],
jT 117 107 116 [3,12]])
(.cond (.t 117)
(.seq (.ops [
aR 118 (.build [.bu,.pv (.int .i64 0),.pv (.int .i64 0)] []) [],
aR 119 (.lr 0 (.c (.pv (.int .i64 7)))) [],
dk 3 8 118 [0,0],
aq 9 119 [1,2,0,1,2]])
.ret)
.skip))
(.seq (.ops [
bQ 120 0 6 [],
bR 121 1 120 [0],
aq 122 11 [],
fw 123 8 121 122 [1,2,0,1,2],
bQ 124 7 123 [3,0,1,2],
N8 (.store 1 (.t 124) (.c (.pv (.int .i64 0)))) [4,0,1,2]])
(.ops [
bQ 125 1 6 [],
bR 126 1 125 [0],
cM 127 .add 126 1 [1],
bQ 128 1 6 [0,1,2],
dk 1 128 127 [3,2,0,1,2]])))))
(.seq (.seq (.ops [
aq 129 14 [],
cM 130 .neq 129 0 [0]])
(.cond (.t 130)
(.seq (.ops [
aR 131 (.build [.bu,.pv (.int .i64 0),.pv (.int .i64 0)] []) [],
aR 132 (.lr 0 (.c (.pv (.int .i64 7)))) [],
dk 3 8 131 [0,0],
aq 9 132 [1,2,0,1,2]])
.ret)
.skip))
(.exit 1)))))
(.seq (.ops [
ck 133 3 5 [],
aq 134 15 [],
bQ 135 2 7 [],
bR 136 1 135 [2],
aR 137 (.call 242 [.t 133,.t 134,.t 136]) [0,1,3]])
(.seq (.ops [
ck 138 3 6 [],
dk 3 8 138 [0,0],
jo 9 [1,0,1]])
.ret))))))))))⟩
def f240:bf:=⟨18,[.cell 4 true 8,.t 5],
(.seq (.ops [
df 2 0 [],
aR 4 (.alloc [.pv (.int .i64 0),.pv (.int .i64 0),.pv (.int .i64 0),.pv (.int .u64 0),.pv (.int .u64 0),.pv (.int .u64 0),.pv (.int .u64 0),.pv (.int .i64 0)]) [],
fV 5 false []])
(.seq (.ops [
ck 7 3 2 [],
aq 8 1 [],
aR 9 (.call 244 [.t 7,.t 8]) [0,1],
aq 6 9 [2,2,0,1,2]])
(.seq (.seq (.ops [
aq 10 6 [],
cM 11 .lss 10 0 [0]])
(.cond (.t 11)
(.seq (.ops [
aR 12 (.build [.pv (.int .i64 0),.pv (.int .i64 0),.pv (.int .i64 0),.pv (.int .u64 0),.pv (.int .u64 0),.pv (.int .u64 0),.pv (.int .u64 0),.pv (.int .i64 0)] []) [],
dk 8 4 12 [0,0],
fV 5 false [1,0,1]])
.ret)
.skip))
(.seq (.ops [
bQ 13 0 2 [],
bR 14 1 13 [0],
aq 15 6 [],
fw 16 8 14 15 [1,2],
ck 17 8 16 [3],
dk 8 4 17 [4,0,1,2,3,4],
fV 5 true [5,0,1,2,3,4,5]])
.ret))))⟩
def f242:bf:=⟨31,[],
(.seq (.ops [
df 3 0 []])
(.seq (.ops [
aq 8 1 [],
aq 9 2 [],
jE 10 8 [0,0,1],
bQ 11 7 10 [2,0,1],
dk 1 11 9 [3,1,0,1]])
(.seq (.draw [
ck 13 3 3 [],
aq 14 1 [],
jE 15 14 [1],
bQ 16 0 15 [2],
bR 17 1 16 [3],
aR 18 (.call 83 [.t 13,.t 17]) [0,4],
aq 12 18 [5],
fu 19 12 0 [6],
fu 20 12 1 [6],
aR 6 (.alloc [.pv (.int .i64 0),.pv (.int .u64 0),.pv (.int .u64 0),.pv (.int .u64 0),.pv (.int .u64 0),.pv (.bool false)]) [],
dk 6 6 19 [9,7,5,0,1,2,3,4,5,6,7,9],
aq 7 20 [8,10,0,1,2,3,4,5,6,7,8,9,10]])
(.seq (.ops [
aq 21 7 [],
aq 22 21 [0],
ew 23 22 true 5 6 [1],
ec 24 22 true 1 23 [2,1],
iZ 25 22 24 [1,3]])
(.cond (.t 25)
(.ops [
aq 26 1 [],
bQ 27 1 6 [],
ck 28 4 27 [1],
jE 29 26 [0,0,1,2],
bQ 30 3 29 [3,0,1,2],
dk 4 30 28 [4,2,0,1,2]])
.skip)))))⟩
def f243:bf:=⟨23,[.t 2],
(.seq (.ops [
df 1 0 [],
fV 2 false []])
(.seq (.seq (.ops [
bQ 3 0 1 [],
bR 4 1 3 [0]])
(.block 0
(.seq (.ops [
cM 6 .eql 4 2 [],
aq 5 6 [0]])
(.cond (.t 5)
(.seq (.ops [
bQ 7 2 1 [],
bR 8 1 7 [0],
cM 9 .eql 8 0 [1],
aq 10 9 [2],
ew 11 10 true 3 1 [3],
ec 12 10 true 1 11 [4,3],
gD 13 10 true .eql 12 0 [5,3],
iZ 14 10 13 [3,6],
aq 2 14 [7,3,0,1,2,3,4,5,6,7]])
.ret)
(.seq (.seq (.ops [
cM 16 .eql 4 1 [],
aq 15 16 [0]])
(.cond (.t 15)
.skip
(.ops [
cM 17 .eql 4 3 [],
aq 15 17 [0]])))
(.cond (.t 15)
(.seq (.ops [
bQ 18 3 1 [],
bR 19 1 18 [0],
cM 20 .eql 19 0 [1],
aq 2 20 [2,0,1,2]])
.ret)
(.seq (.ops [
cM 22 .eql 4 4 [],
aq 21 22 [0]])
(.cond (.t 21)
(.seq (.ops [
fV 2 true []])
.ret)
.skip))))))))
(.seq (.ops [
fV 2 false []])
.ret)))⟩
def f244:bf:=⟨9,[.t 4],
(.seq (.ops [
df 2 0 [],
df 3 1 [],
cR 4 0 []])
(.seq (.ops [
bQ 5 0 2 [],
bR 6 1 5 [0],
aR 7 (.xa 245 [] [.t 3]) [],
aR 8 (.call 287 [.t 6,.t 7]) [1,2],
aq 4 8 [3,3,0,1,2,3]])
.ret))⟩
def f245:bf:=⟨8,[.t 3],
(.seq (.ops [
df 2 0 [],
fV 3 false []])
(.seq (.ops [
bQ 4 0 2 [],
bR 5 1 4 [0],
bR 6 1 1 [],
dX 7 .eql 5 6 [1,2],
aq 3 7 [3,0,1,2,3]])
.ret))⟩
def yJ:bx :=
(.seq (.ops [
dX 9 .lss 8 7 []])
(.seq (.cond (.t 9)
.skip
(.exit 0))
(.seq (.block 1
(.seq (.ops [
aq 10 8 [],
aq 5 10 [0,0]])
(.seq (.ops [
aq 11 1 [],
aq 12 0 [],
aq 13 5 [],
fw 14 8 12 13 [1,2],
ck 15 8 14 [3],
aR 16 (.fK (.t 11) [.t 15]) [0,4]])
(.cond (.t 16)
(.seq (.ops [
aq 17 5 [],
aq 4 17 [0,0]])
.ret)
.skip))))
(.ops [
cM 18 .add 8 1 [],
aq 8 18 [0]]))))
def f287:bf:=⟨19,[.t 4],
(.seq (.ops [
cR 4 0 []])
(.seq (.seq (.ops [
aq 6 0 [],
fT 7 6 [0],
cR 8 0 []])
(.block 0
(.loop yJ)))
(.seq (.ops [
cR 4 (-1) []])
.ret)))⟩
def bw(id:Int):Nat->List dm->Int
 |_,[]=> -1
 |i,p::r=>if p.id=id then i else bw id (i+1) r
theorem hG{T:cK}(nT:Std T 167 f167)(t:State)(id:Int)(h:t.pods.length<=2^30) :
    ba T 167 [aw t,.int .i64 id] (.int .i64 (bw id 0 t.pods)):=by
 refine gives nT rfl ?_;simp only[f167,rM',aa,simprocAttr,aw];have loop:∀(rest:List dm) (i:Nat) (fr:List (Nat×AV)),t.pods.drop i=rest->i<=t.pods.length->look fr 5=.pv (.int .i64 i)->look fr 1=.pv (.int .i64 id)->look fr 2=.ptr 0 0 0 ->
                                                                                              Wp T false (.loop y8) ⟨fr,[(0,.var [.pv (.slice (t.pods.map aK)),.pv (.int .i64 t.pre),.pv (.int .i64 t.fe)])],1⟩
                                                                                               (vX 0 (vv T false (.seq (.ops [⟨some 4,.mv (.c (.pv (.int .i64 (-1)))),none,[]⟩]) .ret) (kR [.t 4] (.int .i64 (bw id i rest))))):=by
  intro rest;induction rest with
  |nil =>
   intro i fr hd hi h5 h1 h2;have hlen:t.pods.length=i:=by
    have:=da List.length hd;simp at this;omega
   rw[az,aY y8.eq_1];simp only[rM',aa,simprocAttr,h5,h1,h2,al,hlen,aP,pd,bw,not_true_eq_false]
  |cons p r ih =>
   intro i fr hd hi h5 h1 h2;have aN:t.pods[i]? =some p:=by
    have:=da (·[0]?) hd;simpa using this
   have hlt:i<t.pods.length:=(aA.1 aN).1;have uP:(i:Int)<(t.pods.length:Int):=by omega
   rw[az,aY y8.eq_1];simp only[rM',aa,simprocAttr,h5,h1,h2,al,uP,kA,bY,fm,aN,Ec,lZ,aK];by_cases hp:p.id=id
   ·simp only[rM',aa,simprocAttr,h5,h1,h2,hp,bw]
   ·have hw:IntKind.i64.wrap ((i:Int)+1)=((i+1:Nat):Int):=by rw[dS] <;>omega
    simp only[rM',aa,simprocAttr,h5,h1,h2,hp,bw,hw];refine ih (i+1) _ ?_ (by omega) ?_ ?_ ?_
    ·rw[<-iE,hd];rfl
    all_goals simp only[bH,Nat.reduceEqDiff,bz,aJ,h1,h2]
 exact loop t.pods 0 _ rfl (aO _) rfl rfl rfl
def H3(s:bc):Bool:=decide ((s.nodes.length:Int)<=40)&&(decide ((s.aT.length:Int)<=40)&&decide ((s.pods.length:Int)<=40))
theorem JH{T:cK}(Mi:Std T 153 f153)(s:bc):ba T 153 [aF s] (.bool (H3 s)):=by
 refine gives Mi rfl ?_;unfold H3;by_cases h1:(s.nodes.length:Int)<=40 <;>by_cases h2:(s.aT.length:Int)<=40 <;>by_cases h3:(s.pods.length:Int)<=40 <;>
  simp only[f153,rM',aa,simprocAttr,aF,al,h1,h2,h3,kA,pd,bB,bq,dU,cA]
section
section
variable{T:cK}
def jI(P:List PV->Bool):Nat->List (List PV)->Int
 |_,[]=> -1
 |i,e::r=>if P e=true then i else jI P (i+1) r
theorem AE{n:Nat}{cs:List PV}(P:List PV->Bool)(Hh:Std T 287 f287)(es:List (List PV))(h:es.length<=2^30)(hl:∀e∈es,e.length=8)(hP:∀e∈es,ba T n (.agg e::cs) (.bool (P e))) :
    ba T 287 [.slice es,.func n [] cs] (.int .i64 (jI P 0 es)):=by
 refine gives Hh rfl ?_;simp only[f287,rM',aa,simprocAttr];have loop:∀(rest:List (List PV)) (i:Nat) (fr:List (Nat×AV)),es.drop i=rest->i<=es.length->look fr 8=.pv (.int .i64 i)->look fr 7=.pv (.int .i64 es.length)->look fr 0=.pv (.slice es)->look fr 1=.pv (.func n [] cs) ->
                                                                                           Wp T false (.loop yJ) ⟨fr,[],0⟩
                                                                                            (vX 0 (vv T false (.seq (.ops [⟨some 4,.mv (.c (.pv (.int .i64 (-1)))),none,[]⟩]) .ret) (kR [.t 4] (.int .i64 (jI P i rest))))):=by
  intro rest;induction rest with
  |nil =>
   intro i fr hd hi h8 h7 h0 h1;have hlen:es.length=i:=by
    have:=da List.length hd;simp at this;omega
   rw[az,aY yJ.eq_1];simp only[rM',aa,simprocAttr,h8,h7,h0,h1,hlen,aP,jI]
  |cons e r ih =>
   intro i fr hd hi h8 h7 h0 h1;have aN:es[i]? =some e:=by
    have:=da (·[0]?) hd;simpa using this
   have Hq:e∈es:=dZ aN;have hlt:i<es.length:=(aA.1 aN).1;have uP:(i:Int)<(es.length:Int):=by omega
   have hw:IntKind.i64.wrap ((i:Int)+1)=((i+1:Nat):Int):=by rw[dS] <;>omega
   have hc:ca (.pv (.agg e)::dL cs)=some (.agg e::cs):=by
    have:ca (dL (.agg e::cs))=some (.agg e::cs):=vk _;exact this
   rw[az,aY yJ.eq_1];simp only[rM',aa,simprocAttr,h8,h7,h0,h1,uP,aN,hl e Hq,aU,pf,bG];rw[(hP e Hq).call _ _ _ _ _ (by simp only[hc])];cases hp:P e
   ·simp only[rM',aa,simprocAttr,h8,h7,h0,h1,hw,jI,hp];refine ih (i+1) _ ?_ (by omega) ?_ ?_ ?_ ?_
    ·rw[<-iE,hd];rfl
    all_goals simp only[bH,Nat.reduceEqDiff,bz,aJ,h7,h0,h1]
   ·simp only[rM',aa,simprocAttr,h8,h7,h0,h1,hw,jI,hp]
 exact loop es 0 _ rfl (aO _) rfl rfl rfl rfl
theorem Fu(Mo:Std T 245 f245)(p:dm)(id:Int):ba T 245 [nW p,.gX [.int .i64 id] 0] (.bool (decide (p.id=id))):=by
 refine gives Mo rfl ?_;simp only[f245,rM',aa,simprocAttr,nW,aK]
theorem lb(id:Int):∀(l:List dm) (i:Nat),jI (fun e=>match e with| .int _ n::_=>decide (n=id)|_=>false) i (l.map aK)=bw id i l
 |[],i=>rfl
 |p::r,i=>by
  simp only[aX,jI,aK,bw,bI];split
  ·rfl
  ·exact lb id r (i+1)
structure Gg(T:cK):Prop where
 Hh:Std T 287 f287
 JK:T.flat 287=true
 Mo:Std T 245 f245
 Rv:Std T 244 f244
theorem si(S:Gg T)(t:State)(id:Int)(h:t.pods.length<=2^30):ba T 244 [aw t,.int .i64 id] (.int .i64 (bw id 0 t.pods)):=by
 refine gives S.Rv rfl ?_;have k:=AE (n:=245) (cs:=[.gX [.int .i64 id] 0]) (fun e=>match e with| .int _ n::_=>decide (n=id)|_=>false) S.Hh (t.pods.map aK) (by simpa using h) (fun e he=>by
  obtain⟨p,_,rfl⟩:=cw.1 he;rfl) (fun e he=>by
  obtain⟨p,_,rfl⟩:=cw.1 he;exact Fu S.Mo p id)
 rw[lb]at k;simp only[f244,rM',aa,simprocAttr,aw];rw[k.sF S.JK rfl _ _ _ _ _ (eq_true rfl) (eq_true rfl)];simp only[rM',aa,simprocAttr]
def eS(id:Int)(l:List dm):Option dm:=l.find? (fun p=>decide (p.id=id))
theorem bZ(id:Int):∀(l:List dm) (i:Nat),(eS id l=none/\bw id i l= -1)\/∃j p,l[j]? =some p/\eS id l=some p/\bw id i l=((i+j:Nat):Int)/\j<l.length
 |[],i=>.inl ⟨rfl,rfl⟩
 |q::r,i=>by
  by_cases h:q.id=id
  ·refine .inr ⟨0,q,rfl,by simp[eS,h],by simp[bw,h],by simp⟩
  ·rcases bZ id r (i+1)with⟨h1,h2⟩|⟨j,p,h1,h2,h3,h4⟩
   ·refine .inl ⟨?_,?_⟩
    ·simp only[eS]at h1⊢;simp[h,h1]
    ·simp only[bw,h,aJ,h2]
   ·refine .inr ⟨j+1,p,by simpa using h1,?_,?_,by simp only[ay];omega⟩
    ·simp only[eS]at h2⊢;simp[h,h2]
    ·simp only[bw,h,aJ,h3];omega
def Fy:dm:=⟨0,0,0,⟨0,0,0,0⟩,0⟩
def ql(o:Option dm):PV:=match o with
 |some p=>.tuple [nW p,.bool true]
 |none=>.tuple [nW Fy,.bool false]
theorem zf(S:Gg T)(w8:Std T 240 f240)(t:State)(id:Int)(h:t.pods.length<=2^30):ba T 240 [aw t,.int .i64 id] (ql (eS id t.pods)):=by
 refine gives w8 rfl ?_;have k:=si S t id h;rcases bZ id t.pods 0 with⟨h1,h2⟩|⟨j,p,h1,h2,h3,h4⟩
 ·rw[h2]at k;simp only[f240,rM',aa,simprocAttr,aw,k.call,h1,ql,nW,Fy,aK,Int.reduceNeg,Int.reduceLT,ft]
 ·rw[h3]at k;have hj:¬((j:Int)<0):=by omega
  simp only[f240,rM',aa,simprocAttr,aw,k.call,h2,ql,nW,aK,hj,h1]
structure IM(T:cK)(n sz:Nat):Prop where
 fW:T.fW n=some (iT sz)
 raw:T.raw n=false
 own:T.own n=true
theorem IM.call{n sz:Nat}(S:IM T n sz){es:List (List PV)}(h:cn sz es=true)(hl:es.length<=2^30)(d:Option Nat)(l:List aV)(st:St)(K:St->Prop) :
    iN T n [.pv (.slice es)] d l st K↔tP T l (match es with|[]=>⟨dt st d (.pv (.slice [])),st.hp,st.nx⟩|e::r=>⟨dt st d (.ms st.nx),(st.nx,.row sz (e::r))::st.hp,st.nx+1⟩) K:=by
 cases es with
 |nil =>
  have hc:du (D T) n [.slice []]=some (none,.slice []):=by
   unfold du;rw[iD S.fW (show iT sz (dL [.slice []]) [] 0=some (.pv (.slice []),[],2)from rfl)];rfl
  rw[l6 S.raw rfl hc,S.own];rfl
 |cons e r =>
  have hc:du (D T) n [.slice (e::r)]=some (some sz,.slice (e::r)):=by
   unfold du;rw[iD S.fW (show iT sz (dL [.slice (e::r)]) [] 0=some (.ms 1,[(1,.row sz (e::r))],2)from by
    simp only[iT,dL];rw[aW ⟨h,hl⟩])]
   rfl
  rw[l6 S.raw rfl hc,S.own];rfl
theorem cT(l:List dm):cn 8 (l.map aK)=true:=by
 simp[cn,aK]
def cv(s:bc):State:=⟨s.pods,0,0⟩
theorem EL(K2:Std T 237 f237)(rW:IM T 279 8)(s:bc)(h:s.pods.length<=2^30):ba T 237 [aF s] (aw (cv s)):=by
 refine gives K2 rfl ?_;simp only[f237,rM',aa,simprocAttr,aF,aw,cv];rw[rW.call (cT _) (by simpa using h)];cases hs:s.pods with
 |nil=>simp only[rM',aa,simprocAttr,aC]
 |cons p r=>simp only[rM',aa,simprocAttr,aX]
theorem C3(Rc:Std T 164 f164)(s:bc)(h:s.pods.length<=2^30):ba T 164 [aF s] (aw (cv s)):=by
 refine gives Rc rfl ?_;simp only[f164,rM',aa,simprocAttr,aF,aw,cv,cT,bt,dV,chunk,fR,eQ,h]
def lk(w:Want)(l:List dm):Bool:=match eS w.eP l with
 |none=>false
 |some p=>if w.stay=true then decide (p.node≠0)&&decide (p.jU=w.jU)else decide (p.node=0)
def dg(ws:List Want)(l:List dm):Bool:=ws.all (fun w=>lk w l)
theorem pL(v v':jD):dC [false,false,false,false] [.int .u64 v.a,.int .u64 v.b,.int .u64 v.c,.int .u64 v.d] [.int .u64 v'.a,.int .u64 v'.b,.int .u64 v'.c,.int .u64 v'.d]=some (decide (v=v')):=by
 obtain⟨a,b,c,d⟩:=v;obtain⟨a',b',c',d'⟩:=v';simp only[dC,bz,ai];rw[Bool.eq_iff_iff];simp
theorem Am(S:Gg T)(w8:Std T 240 f240)(K3:Std T 238 f238)(x:Spec)(t:State)(hx:x.b9.length<=2^30)(h:t.pods.length<=2^30):ba T 238 [bg x,aw t] (.bool (dg x.b9 t.pods)):=by
 refine gives K3 rfl ?_;have loop:∀(rest:List Want) (i:Nat),x.b9.drop i=rest->i<=x.b9.length->∀(fr:List (Nat×AV)) (hp:Hl) (nx:Nat),2<=nx ->
                            ah hp 1=.var [.pv (.slice (t.pods.map aK)),.pv (.int .i64 t.pre),.pv (.int .i64 t.fe)]->look fr 3=.ptr 1 0 0 ->
                            look fr 12=.pv (.int .i64 i)->look fr 11=.pv (.int .i64 x.b9.length)->look fr 10=.pv (.slice (x.b9.map cj)) ->
                            Wp T false (.loop uE) ⟨fr,hp,nx⟩ (vX 0 (vv T false (.seq (.ops [⟨some 4,.mv (.c (.pv (.bool true))),none,[]⟩]) .ret) (kR [.t 4] (.bool (dg rest t.pods))))):=by
  intro rest;induction rest with
  |nil =>
   intro i hd hi fr hp nx hn b1 h3 mS h11 h10;have hlen:x.b9.length=i:=by
    have:=da List.length hd;simp at this;omega
   rw[az,aY uE.eq_1];simp only[rM',aa,simprocAttr,h3,mS,h11,h10,hlen,aP,dg,bV]
  |cons w r ih =>
   intro i hd hi fr hp nx hn b1 h3 mS h11 h10;have aN:x.b9[i]? =some w:=by
    have:=da (·[0]?) hd;simpa using this
   have hlt:i<x.b9.length:=(aA.1 aN).1;have uP:(i:Int)<(x.b9.length:Int):=by omega
   have n1:¬nx=1:=by omega
   have n2:¬nx+1=1:=by omega
   have hw:IntKind.i64.wrap ((i:Int)+1)=((i+1:Nat):Int):=by rw[dS] <;>omega
   have k:=zf S w8 t w.eP h;have next:lk w t.pods=true->∀(fG:List (Nat×AV)) (hp':Hl) (cC:Nat),2<=cC->ah hp' 1=ah hp 1->look fG 3=look fr 3->look fG 12=.pv (.int .i64 ((i+1:Nat):Int))->look fG 11=look fr 11->look fG 10=look fr 10 ->
                                Wp T false (.loop uE) ⟨fG,hp',cC⟩ (vX 0 (vv T false (.seq (.ops [⟨some 4,.mv (.c (.pv (.bool true))),none,[]⟩]) .ret) (kR [.t 4] (.bool (dg (w::r) t.pods))))):=by
    intro hm fG hp' cC RY rE K4 R6 R3 QZ;have:dg (w::r) t.pods=dg r t.pods:=by simp only[dg,bL,hm,bq]
    rw[this];exact ih (i+1) (by rw[<-iE,hd];rfl) (by omega) fG hp' cC RY (rE.trans b1) (K4.trans h3) R6 (R3.trans h11) (QZ.trans h10)
   have stop:lk w t.pods=false->dg (w::r) t.pods=false:=by
    intro hm;simp only[dg,bL,hm,cA]
   rw[az,aY uE.eq_1];simp only[rM',aa,simprocAttr,h3,mS,h11,h10,uP,aN,cj,b1,n1,n2,k.call,aw];cases hp0:eS w.eP t.pods with
   |none =>
    have:=stop (by simp only[lk,hp0]);simp only[rM',aa,simprocAttr,ql,nW,Fy,aK,n1,n2,this]
   |some p =>
    cases iX:w.stay
    ·by_cases hn:p.node=0
     ·simp only[rM',aa,simprocAttr,ql,nW,aK,n1,n2,iX,hn,mS,hw];refine next (by simp[lk,hp0,iX,hn]) _ _ _ (by omega) ?_ ?_ ?_ ?_ ?_
      all_goals simp only[bH,aD,Nat.reduceEqDiff,bz,aJ,n1,n2]
     ·have:=stop (by simp[lk,hp0,iX,hn]);simp only[rM',aa,simprocAttr,ql,nW,aK,n1,n2,iX,hn,this]
    ·by_cases hn:p.node=0
     ·have:=stop (by simp[lk,hp0,iX,hn]);simp only[rM',aa,simprocAttr,ql,nW,aK,n1,n2,iX,hn,this]
     ·by_cases hr:p.jU=w.jU
      ·simp only[rM',aa,simprocAttr,ql,nW,aK,n1,n2,iX,hn,pL,hr,mS,hw];refine next (by simp[lk,hp0,iX,hn,hr]) _ _ _ (by omega) ?_ ?_ ?_ ?_ ?_
       all_goals simp only[bH,aD,Nat.reduceEqDiff,bz,aJ,n1,n2]
      ·have:=stop (by simp[lk,hp0,iX,hn,hr]);simp only[rM',aa,simprocAttr,ql,nW,aK,n1,n2,iX,hn,pL,hr,this]
 simp only[f238,rM',aa,simprocAttr,bg,aw];exact loop x.b9 0 rfl (aO _) _ _ 2 (ax _) rfl rfl rfl rfl rfl
theorem EU(Rd:Std T 165 f165)(nT:Std T 167 f167)(x:Spec)(t:State)(hx:x.b9.length<=2^30)(h:t.pods.length<=2^30):ba T 165 [bg x,aw t] (.bool (dg x.b9 t.pods)):=by
 refine gives Rd rfl ?_;have loop:∀(rest:List Want) (i:Nat),x.b9.drop i=rest->i<=x.b9.length->∀(fr:List (Nat×AV)) (hp:Hl) (nx:Nat),2<=nx ->
                            ah hp 0=.var [.pv (.slice (x.b9.map cj)),.pv (.int .i64 x.pre),.pv (.int .i64 x.fe)] ->
                            ah hp 1=.var [.pv (.slice (t.pods.map aK)),.pv (.int .i64 t.pre),.pv (.int .i64 t.fe)]->look fr 2=.ptr 0 0 0->look fr 3=.ptr 1 0 0->look fr 5=.pv (.int .i64 i) ->
                            Wp T false (.loop uv) ⟨fr,hp,nx⟩ (vX 0 (vv T false (.seq (.ops [⟨some 4,.mv (.c (.pv (.bool true))),none,[]⟩]) .ret) (kR [.t 4] (.bool (dg rest t.pods))))):=by
  intro rest;induction rest with
  |nil =>
   intro i hd hi fr hp nx hn b0 b1 h2 h3 h5;have hlen:x.b9.length=i:=by
    have:=da List.length hd;simp at this;omega
   rw[az,aY uv.eq_1];simp only[rM',aa,simprocAttr,b0,h2,h3,h5,hlen,aP,dg,bV]
  |cons w r ih =>
   intro i hd hi fr hp nx hn b0 b1 h2 h3 h5;have aN:x.b9[i]? =some w:=by
    have:=da (·[0]?) hd;simpa using this
   have hlt:i<x.b9.length:=(aA.1 aN).1;have uP:(i:Int)<(x.b9.length:Int):=by omega
   have n0:¬nx=0:=by omega
   have n1:¬nx=1:=by omega
   have hw:IntKind.i64.wrap ((i:Int)+1)=((i+1:Nat):Int):=by rw[dS] <;>omega
   have k:=hG nT t w.eP h;have next:lk w t.pods=true->∀(fG:List (Nat×AV)) (hp':Hl) (cC:Nat),2<=cC->ah hp' 0=ah hp 0->ah hp' 1=ah hp 1->look fG 2=look fr 2->look fG 3=look fr 3->look fG 5=.pv (.int .i64 ((i+1:Nat):Int)) ->
                              Wp T false (.loop uv) ⟨fG,hp',cC⟩ (vX 0 (vv T false (.seq (.ops [⟨some 4,.mv (.c (.pv (.bool true))),none,[]⟩]) .ret) (kR [.t 4] (.bool (dg (w::r) t.pods))))):=by
    intro hm fG hp' cC RY Jq rE JX K4 U9;have:dg (w::r) t.pods=dg r t.pods:=by simp only[dg,bL,hm,bq]
    rw[this];exact ih (i+1) (by rw[<-iE,hd];rfl) (by omega) fG hp' cC RY (Jq.trans b0) (rE.trans b1) (JX.trans h2) (K4.trans h3) U9
   have stop:lk w t.pods=false->dg (w::r) t.pods=false:=by
    intro hm;simp only[dg,bL,hm,cA]
   rw[az,aY uv.eq_1];simp only[rM',aa,simprocAttr,b0,h2,h3,h5,uP];refine(ef rfl).2 ?_;rcases bZ w.eP t.pods 0 with⟨e1,e2⟩|⟨j,p,e1,e2,e3,e4⟩
   ·have:=stop (by simp only[lk,e1]);rw[e2]at k;simp only[rM',aa,simprocAttr,b0,b1,h2,h3,h5,aN,cj,k.cm,aw,this,Int.reduceNeg,Int.reduceLT]
   ·have hj:¬((j:Int)<0):=by omega
    rw[e3]at k;simp only[rM',aa,simprocAttr,b0,b1,h2,h3,h5,aN,cj,k.cm,aw,hj,e1,aK];refine(ef rfl).2 ?_;cases iX:w.stay
    ·by_cases hn:p.node=0
     ·simp only[rM',aa,simprocAttr,aK,cj,n0,n1,iX,hn,b0,h2,h5,aN,hw];refine next (by simp[lk,e2,iX,hn]) _ _ _ (by omega) ?_ ?_ ?_ ?_ ?_
      all_goals simp only[bH,aD,Nat.reduceEqDiff,bz,aJ,n0,n1]
     ·have:=stop (by simp[lk,e2,iX,hn]);simp only[rM',aa,simprocAttr,aK,cj,n0,n1,iX,hn,b0,h2,h5,aN,this]
    ·by_cases hn:p.node=0
     ·have:=stop (by simp[lk,e2,iX,hn]);simp only[rM',aa,simprocAttr,aK,cj,n0,n1,iX,hn,b0,h2,h5,aN,this]
     ·by_cases hr:p.jU=w.jU
      ·simp only[rM',aa,simprocAttr,aK,cj,n0,n1,iX,hn,pL,hr,b0,h2,h5,aN,hw];refine next (by simp[lk,e2,iX,hn,hr]) _ _ _ (by omega) ?_ ?_ ?_ ?_ ?_
       all_goals simp only[bH,aD,Nat.reduceEqDiff,bz,aJ,n0,n1]
      ·have:=stop (by simp[lk,e2,iX,hn,hr]);simp only[rM',aa,simprocAttr,aK,cj,n0,n1,iX,hn,pL,hr,b0,h2,h5,aN,this]
 simp only[f165,rM',aa,simprocAttr,bg,aw];exact loop x.b9 0 rfl (aO _) _ _ 2 (ax _) rfl rfl rfl rfl rfl
end
end
section
/-! ### Calls in the GM blocks -/
theorem dr{T:cK}{n:Nat}{args:List AV}{d:Option Nat}{l:List aV}{st:St}{K:St->Prop}{v:AV}{hp:Hl}{nx:Nat}(hr:T.raw n=true)(h:D T n args st.hp st.nx=some (v,hp,nx)) :
    iN T n args d l st K↔tP T l ⟨dt st d v,hp,nx⟩ K:=by
 unfold iN eO;simp only[hr,h,ai];constructor
 ·rintro⟨_,rfl,h⟩;exact h
 ·exact fun h=>⟨_,rfl,h⟩
def jK(res:List zE)(Q:AV->Hl->Nat->Prop)(st:St):Prop:=match kG (look st.fr) (ah st.hp) res with
 |some vs=>Q (gJ vs) st.hp st.nx
 |none=>False
def ks(res:List zE)(Q:AV->Hl->Nat->Prop):Exit->St->Prop
 | .ret,st=>jK res Q st
 | .normal,st=>jK res Q st
 |_,_=>False
structure pS(T:cK)(n:Nat)(f:bf):Prop where
 fW:T.fW n=none
 fn:T.fn n=some f
 still:T.still n=false
 raw:T.raw n=true
theorem xB{T:cK}{n:Nat}{f:bf}{args:List AV}{hp:Hl}{nx:Nat}{Q:AV->Hl->Nat->Prop}(S:pS T n f)(hN:Nat.ble args.length f.N=true)(h:Wp T false f.body ⟨fA 0 args,hp,nx⟩ (ks f.res Q)) :
    ∃v hp' cC,D T n args hp nx=some (v,hp',cC)/\Q v hp' cC:=by
 obtain⟨e,st,h1,h2⟩:=h;have he:(e=.ret\/e=.normal)/\jK f.res Q st:=by
  cases e with
  |ret=>exact⟨.inl rfl,h2⟩
  |normal=>exact⟨.inr rfl,h2⟩
  |_=>exact h2.elim
 obtain⟨he,h3⟩:=he;unfold jK at h3;split at h3
 ·rename_i vs G5;exact⟨_,_,_,Ga S.fW S.fn hN (by rw[S.still];exact h1) he G5,h3⟩
 ·exact h3.elim
def mN:Node:=⟨0,0,⟨0,0,0,0⟩,⟨0,0,0,0⟩⟩
def dv(id:Int)(l:List Node):Option Node:=l.find? (fun n=>decide (n.id=id))
def jZ:Option Node->PV
 |some n=>.tuple [.agg (bC n),.bool true]
 |none=>.tuple [.agg (bC mN),.bool false]
theorem Fm{T:cK}(l:List Node)(id:Int)(hl:l.length<=2^30)(Q:Exit->St->Prop)(o:Option Node)
    (bS:o=none->∀fr hp nx,look fr 4=.ptr 1 0 0->ah hp 1=.var (dL (bC mN))->Q (.exit 0) ⟨fr,hp,nx⟩)
    (dK:∀n,o=some n->∀fr hp nx,look fr 4=.ptr 1 0 0->look fr 5=.pv (.bool true)->ah hp 1=.var (dL (bC n))->Q .ret ⟨fr,hp,nx⟩) :
    ∀(rest:List Node) (i:Nat),l.drop i=rest->i<=l.length->dv id rest=o->∀(fr:List (Nat×AV)) (hp:Hl) (nx:Nat),2<=nx->look fr 4=.ptr 1 0 0->ah hp 1=.var (dL (bC mN)) ->
     look fr 1=.pv (.int .i64 id)->look fr 9=.pv (.slice (l.map bC))->look fr 10=.pv (.int .i64 l.length)->look fr 11=.pv (.int .i64 i)->Wp T false (.loop Dv) ⟨fr,hp,nx⟩ Q:=by
 intro rest;induction rest with
 |nil =>
  intro i hd hi ho fr hp nx hn h4 b1 h1 h9 h10 h11;have hlen:=drop_nil hd hi;rw[az,aY Dv.eq_1];simp only[rM',aa,simprocAttr,h4,h1,h9,h10,h11,hlen,aP];refine bS ho.symm _ _ _ ?_ b1;simp only[bH,Nat.reduceEqDiff,aJ,h4]
 |cons n r ih =>
  intro i hd hi ho fr hp nx hn h4 b1 h1 h9 h10 h11;obtain⟨aN,hlt,hw,dh,cW,hb⟩:=drop_cons hd hl;have n1:¬nx=1:=by omega
  have rE:=b1;simp only[bC,mN,dL]at rE;rw[az,aY Dv.eq_1];by_cases hk:n.id=id
  ·simp only[rM',aa,simprocAttr,h4,rE,h1,h9,h10,h11,hlt,aN,bC,n1,hk];refine dK n (by rw[<-ho];simp[dv,hk]) _ _ _ ?_ ?_ ?_
   all_goals simp only[bH,aD,Nat.reduceEqDiff,bz,aJ,h4,n1,bC,dL,hk]
  ·simp only[rM',aa,simprocAttr,h4,rE,h1,h9,h10,h11,hlt,aN,bC,n1,hk,hw];refine ih (i+1) dh cW (by rw[<-ho];simp[dv,hk]) _ _ _ (by omega) ?_ ?_ ?_ ?_ ?_ ?_
   all_goals simp only[bH,aD,Nat.reduceEqDiff,bz,aJ,h4,b1,n1,h1,h9,h10]
theorem tA{T:cK}(h:Std T 82 f82)(s:bc)(id:Int)(hl:s.nodes.length<=2^30):ba T 82 [aF s,.int .i64 id] (jZ (dv id s.nodes)):=by
 refine gives h rfl ?_;simp only[f82,rM',aa,simprocAttr,aF];refine Fm s.nodes id hl _ (dv id s.nodes) (fun ho fr hp nx h4 b1=>?_) (fun n ho fr hp nx h4 h5 b1=>?_) s.nodes 0 rfl (aO _) rfl _ _ _ (ax _) rfl rfl rfl rfl rfl rfl
 ·simp only[bC,mN,dL]at b1;simp only[rM',aa,simprocAttr,ho,jZ,h4,b1,bC,mN]
 ·simp only[bC,dL]at b1;simp only[rM',aa,simprocAttr,ho,jZ,h4,h5,b1,bC]
def vK:Want:=⟨0,⟨0,0,0,0⟩,false⟩
def jV(id:Int)(l:List Want):Option Want:=l.find? (fun n=>decide (n.eP=id))
def xx:Option Want->PV
 |some n=>.tuple [.agg (cj n),.bool true]
 |none=>.tuple [.agg (cj vK),.bool false]
theorem FY{T:cK}(l:List Want)(id:Int)(hl:l.length<=2^30)(Q:Exit->St->Prop)(o:Option Want)
    (bS:o=none->∀fr hp nx,look fr 4=.ptr 1 0 0->ah hp 1=.var (dL (cj vK))->Q (.exit 0) ⟨fr,hp,nx⟩)
    (dK:∀n,o=some n->∀fr hp nx,look fr 4=.ptr 1 0 0->look fr 5=.pv (.bool true)->ah hp 1=.var (dL (cj n))->Q .ret ⟨fr,hp,nx⟩) :
    ∀(rest:List Want) (i:Nat),l.drop i=rest->i<=l.length->jV id rest=o->∀(fr:List (Nat×AV)) (hp:Hl) (nx:Nat),2<=nx->look fr 4=.ptr 1 0 0->ah hp 1=.var (dL (cj vK)) ->
     look fr 1=.pv (.int .i64 id)->look fr 9=.pv (.slice (l.map cj))->look fr 10=.pv (.int .i64 l.length)->look fr 11=.pv (.int .i64 i)->Wp T false (.loop Dw) ⟨fr,hp,nx⟩ Q:=by
 intro rest;induction rest with
 |nil =>
  intro i hd hi ho fr hp nx hn h4 b1 h1 h9 h10 h11;have hlen:=drop_nil hd hi;rw[az,aY Dw.eq_1];simp only[rM',aa,simprocAttr,h4,h1,h9,h10,h11,hlen,aP];refine bS ho.symm _ _ _ ?_ b1;simp only[bH,Nat.reduceEqDiff,aJ,h4]
 |cons n r ih =>
  intro i hd hi ho fr hp nx hn h4 b1 h1 h9 h10 h11;obtain⟨aN,hlt,hw,dh,cW,hb⟩:=drop_cons hd hl;have n1:¬nx=1:=by omega
  have rE:=b1;simp only[cj,vK,dL]at rE;rw[az,aY Dw.eq_1];by_cases hk:n.eP=id
  ·simp only[rM',aa,simprocAttr,h4,rE,h1,h9,h10,h11,hlt,aN,cj,n1,hk];refine dK n (by rw[<-ho];simp[jV,hk]) _ _ _ ?_ ?_ ?_
   all_goals simp only[bH,aD,Nat.reduceEqDiff,bz,aJ,h4,n1,cj,dL,hk]
  ·simp only[rM',aa,simprocAttr,h4,rE,h1,h9,h10,h11,hlt,aN,cj,n1,hk,hw];refine ih (i+1) dh cW (by rw[<-ho];simp[jV,hk]) _ _ _ (by omega) ?_ ?_ ?_ ?_ ?_ ?_
   all_goals simp only[bH,aD,Nat.reduceEqDiff,bz,aJ,h4,b1,n1,h1,h9,h10]
theorem L3{T:cK}(h:Std T 83 f83)(x:Spec)(id:Int)(hl:x.b9.length<=2^30):ba T 83 [bg x,.int .i64 id] (xx (jV id x.b9)):=by
 refine gives h rfl ?_;simp only[f83,rM',aa,simprocAttr,bg];refine FY x.b9 id hl _ (jV id x.b9) (fun ho fr hp nx h4 b1=>?_) (fun n ho fr hp nx h4 h5 b1=>?_) x.b9 0 rfl (aO _) rfl _ _ _ (ax _) rfl rfl rfl rfl rfl rfl
 ·simp only[cj,vK,dL]at b1;simp only[rM',aa,simprocAttr,ho,xx,h4,b1,cj,vK]
 ·simp only[cj,dL]at b1;simp only[rM',aa,simprocAttr,ho,xx,h4,h5,b1,cj]
end
section
def zo(x y:aV):Bool:=fB (kF x.dst) (vp y)&&(fB (kF x.dst) (kF y.dst)&&fB (kF y.dst) (vp x))
def Ip(x y:aV):Bool:=(quiet x.op&&quiet y.op)||(IW x.op||IW y.op)
def nz(i:Nat)(x:aV):List Nat->Nat->List aV->Option (List (Nat×Nat))
 |_,_,[]=>some []
 |l,j,y::r=>cond (sA l y.kC) (nz i x (j::l) (j+1) r) (cond (zo x y) (match nz i x l (j+1) r with
  |some ps=>some (cond (Ip x y) ps ((i,j)::ps))
  |none=>none) none)
def sf(i:Nat):List aV->Option (List (Nat×Nat))
 |[]=>some []
 |x::r=>cond (Nf x&&kV i x.kC) (match nz i x [i] (i+1) r,sf (i+1) r with
  |some a,some b=>some (a++b)
  |_,_=>none) none
def mF(e f:En):Bool:=fB (keys e.W) f.rd&&(fB (keys e.W) (keys f.W)&&(fB (keys f.W) e.rd&&(Nat.beq e.n 0||(Nat.beq f.n 0||!(Nat.beq e.k f.k)))))
def uj:Option En->Option En->Bool
 |some e,some f=>mF e f
 |_,_=>false
def iU(es:List En):List (Nat×Nat)->Bool
 |[]=>true
 |(i,j)::r=>uj (es[i]?) (es[j]?)&&iU es r
theorem ui{es:List En}:∀{ps:List (Nat×Nat)},iU es ps=true->∀i j,(i,j)∈ps->∀e f,es[i]? =some e->es[j]? =some f->mF e f=true
 |[],_,i,j,h,_,_,_,_=>by simp at h
 |(a,b)::r,h,i,j,hm,e,f,h1,h2=>by
  simp only[iU,bj]at h;rcases aQ.1 hm with heq|hm
  ·simp only[aZ]at heq;obtain⟨rfl,rfl⟩:=heq;have:=h.1;rw[h1,h2]at this;exact this
  ·exact ui h.2 i j hm e f h1 h2
theorem Hx{e f:En}(hs:zo e.x f.x=true)(hd:mF e f=true):iG e f=true:=by
 simp only[zo,mF,bj,vp]at hs hd;obtain⟨s1,s2,s3⟩:=hs;obtain⟨d1,d2,d3,d4⟩:=hd;simp only[iG,En.reads,s1,s2,s3,d1,d2,d3,d4,bq]
theorem KY{e f:En}(he:IU e)(hf:IU f)(h:Ip e.x f.x=true):mF e f=true:=by
 simp only[Ip,ke,bj]at h;unfold mF;rcases h with⟨q1,q2⟩|q1|q2
 ·obtain⟨a1,a2⟩:=he.1 q1;obtain⟨b1,b2⟩:=hf.1 q2;simp only[a1,a2,b1,b2,keys,fB,cg,sX,Bool.and_self]
 ·obtain⟨a1,a2,a3⟩:=he.2 q1;simp only[a1,a2,a3,keys,fB,om,cg,sX,Bool.and_self]
 ·obtain⟨b1,b2,b3⟩:=hf.2 q2;simp only[b1,b2,b3,keys,fB,om,cg,sX,Bool.or_true,Bool.and_self]
theorem qj{i:Nat}{e:En}(he:IU e):∀{es:List En} {l:List Nat} {j:Nat} {ps:List (Nat×Nat)},(∀f∈es,IU f)->nz i e.x l j (es.map (·.x))=some ps ->
    (∀b f,(i,b)∈ps->j<=b->es[b-j]? =some f->mF e f=true)->vt l j e es=true
 |[],l,j,ps,_,_,_=>rfl
 |f::r,l,j,ps,hs,h,hd=>by
  simp only[aX,nz]at h;simp only[vt];have qY:∀g∈r,IU g:=fun g hg=>hs g (by simp[hg]);have shift:∀{qs:List (Nat×Nat)},(∀b,(i,b)∈qs->(i,b)∈ps)->∀b g,(i,b)∈qs->j+1<=b->r[b-(j+1)]? =some g->mF e g=true:=fun MK b g hb hj hg=>by
   refine hd b g (MK b hb) (by omega) ?_;rw[show b-j=(b-(j+1))+1 by omega];simpa using hg
  cases ha:sA l f.x.kC with
  |true =>
   rw[ha]at h;exact qj he qY h (shift fun b hb=>hb)
  |false =>
   rw[ha]at h;simp only[fp]at h⊢;cases Sa:zo e.x f.x with
   |false=>rw[Sa]at h;simp at h
   |true =>
    rw[Sa]at h;simp only[gT]at h;cases hr:nz i e.x l (j+1) (r.map (·.x))with
    |none=>rw[hr]at h;simp at h
    |some qs =>
     rw[hr]at h;simp only[ai]at h;have Ul:mF e f=true:=by
      cases NA:Ip e.x f.x with
      |true=>exact KY he (hs f (by simp)) NA
      |false =>
       rw[NA]at h;exact hd j f (by rw[<-h];simp) (ax _) (by simp)
     rw[Hx Sa Ul,bq];exact qj he qY hr (shift fun b hb=>by
      rw[<-h];cases Ip e.x f.x <;>simp[hb])
theorem sg:∀{es:List En} {i:Nat} {ps:List (Nat×Nat)},(∀f∈es,IU f)->sf i (es.map (·.x))=some ps ->
    (∀a b e f,(a,b)∈ps->i<=a->i<=b->es[a-i]? =some e->es[b-i]? =some f->mF e f=true)->eC i es=true
 |[],i,ps,_,_,_=>rfl
 |e::r,i,ps,hs,h,hd=>by
  simp only[aX,sf]at h;cases h1:(Nf e.x&&kV i e.x.kC)with
  |false=>rw[h1]at h;simp at h
  |true =>
   rw[h1]at h;simp only[gT]at h;simp only[bj]at h1;cases ha:nz i e.x [i] (i+1) (r.map (·.x))with
   |none=>rw[ha]at h;simp at h
   |some as =>
    cases hb:sf (i+1) (r.map (·.x))with
    |none=>rw[ha,hb]at h;simp at h
    |some bs =>
     rw[ha,hb]at h;simp only[ai]at h;have iX:il e=true:=h1.1;have Pf:=qj (hs e (by simp)) (fun f hf=>hs f (by simp[hf])) ha (fun b f hm hj hf=>by
      refine hd i b e f (by rw[<-h];simp[hm]) (ax _) (by omega) (by simp) ?_;rw[show b-i=(b-(i+1))+1 by omega];simpa using hf)
     have RN:=sg (fun f hf=>hs f (by simp[hf])) hb (fun a b f g hm Nw Av hf hg=>by
      refine hd a b f g (by rw[<-h];simp[hm]) (by omega) (by omega) ?_ ?_
      ·rw[show a-i=(a-(i+1))+1 by omega];simpa using hf
      ·rw[show b-i=(b-(i+1))+1 by omega];simpa using hg)
     simp only[eC,h1.2,iX,Pf,RN,Bool.or_true,Bool.and_self]
theorem vE{T:cK}{C:Cl}:∀{l:List aV} {st bT:St} {es:List En},jb T C l st=some (es,bT)->es.map (·.x)=l/\∀e∈es,IU e
 |[],st,bT,es,h=>by simp[jb]at h;obtain⟨rfl,rfl⟩:=h;simp
 |x::r,st,bT,es,h=>by
  simp only[jb]at h;split at h
  ·rename_i e st1 h1;split at h
   ·rename_i es' wt h2;simp at h;obtain⟨rfl,rfl⟩:=h;obtain⟨k1,k2⟩:=Bh h1;obtain⟨g2,g3⟩:=vE h2;refine⟨by simp[k1,g2],fun f hf=>?_⟩;rcases aQ.1 hf with rfl|hf
    ·exact k2
    ·exact g3 f hf
   ·simp at h
  ·simp at h
theorem iv{T:cK}{st:St}{Q:Exit->St->Prop}{l:List aV}{ps:List (Nat×Nat)}(hp:sf 0 l=some ps)(h:zA T l st [] (fun es bT=>iU es ps=true/\Q .normal bT)):Wp T false (.draw l) st Q:=by
 refine tl.2 ?_;obtain⟨es,bT,h1,h2,h3⟩:=h;refine⟨es,bT,h1,?_,h3⟩;simp only[cF,aE]at h2⊢;obtain⟨g1,g2⟩:=vE h1;exact sg g2 (by rw[g1];exact hp) (fun a b e f hm _ _ he hf=>ui h2 a b hm e f (by simpa using he) (by simpa using hf))
theorem cy{T:cK}{st:St}{Q:Exit->St->Prop}{l:List aV}(hp:sf 0 l=some []):Wp T false (.draw l) st Q↔vN T l st (Q .normal):=by
 constructor
 ·rintro⟨e,bT,h,hq⟩
  cases h;rename_i h;unfold f9 at h;split at h
  ·rename_i es st1 h1;split at h
   ·simp at h;subst h;exact⟨es,_,h1,hq⟩
   ·simp at h
  ·simp at h
 ·rintro⟨es,bT,h,hq⟩
  refine⟨_,_,.draw ?_,hq⟩;unfold f9;have:jb T (D T) l (lf false st)=some (es,bT):=h;rw[this];obtain⟨g1,g2⟩:=vE h;have hc:eC 0 es=true:=sg g2 (by rw[g1];exact hp) (fun a b e f hm=>by simp at hm);simp only[hc]
/-! ### Q0 that call V3 the GM blocks -/
section
variable{T:cK}{x:aV}{l:List aV}{st:St}{acc:List Hn}{K:List Hn->St->Prop}
end
end
def Dx:bx :=
(.seq (.ops [
dX 10 .lss 9 8 []])
(.seq (.cond (.t 10)
.skip
(.exit 0))
(.seq (.block 1
(.seq (.ops [
fw 11 10 7 9 [],
ck 12 10 11 [0],
aR 5 (.alloc [.pv (.int .i64 0),.pv (.int .i64 0),.pv (.int .u64 0),.pv (.int .u64 0),.pv (.int .u64 0),.pv (.int .u64 0),.pv (.int .u64 0),.pv (.int .u64 0),.pv (.int .u64 0),.pv (.int .u64 0)]) [],
dk 10 5 12 [2,1,0,1,2]])
(.ops [
aq 13 3 [],
bQ 14 1 5 [],
bR 15 1 14 [1],
aR 16 (.cr 1 1 [.pv (.int .i64 0)] [(0,1,(.t 15))]) [2],
aR 17 (.append 1 8 (.t 13) (.t 16)) [0,3],
aq 3 17 [4,4,0,1,2,3,4]])))
(.ops [
cM 18 .add 9 1 [],
aq 9 18 [0]]))))
def f84:bf:=⟨23,[.t 2],
(.seq (.ops [
df 1 0 [],
aR 2 (.mv (.c .bu)) []])
(.seq (.ops [
aR 3 (.mv (.c .bu)) []])
(.seq (.seq (.ops [
bQ 6 0 1 [],
bR 7 1 6 [0],
fT 8 7 [1],
cR 9 0 []])
(.block 0
(.loop Dx)))
(.seq (.ops [
aq 19 3 [],
aR 20 (.call 293 [.t 19]) [0]])
(.seq (.ops [
aq 21 3 [],
aR 22 (.call 281 [.t 21]) [0],
aq 2 22 [1,1,0,1]])
.ret)))))⟩
def y5:bx :=
(.seq (.seq (.ops [
aq 6 5 [],
bQ 7 0 2 [],
bR 8 1 7 [1],
fT 9 8 [2],
dX 10 .lss 6 9 [0,3]])
(.cond (.t 10)
.skip
(.exit 0)))
(.seq (.block 1
(.seq (.ops [
bQ 13 0 2 [],
bR 14 1 13 [0],
aq 15 5 [],
fw 16 6 14 15 [1,2],
bQ 17 0 16 [3],
bR 18 1 17 [4],
aq 19 1 [],
dX 20 .eql 18 19 [5,6]])
(.cond (.t 20)
(.seq (.ops [
aq 21 5 [],
aq 4 21 [0,0]])
.ret)
.skip)))
(.ops [
aq 11 5 [],
cM 12 .add 11 1 [0],
aq 5 12 [1,0,1]])))
def f157:bf:=⟨22,[.t 4],
(.seq (.ops [
df 2 0 [],
cR 4 0 []])
(.seq (.seq (.ops [
cR 5 0 []])
(.block 0
(.loop y5)))
(.seq (.ops [
cR 4 (-1) []])
.ret)))⟩
def rQ:bx :=
(.seq (.seq (.draw [
aq 14 5 [],
aq 15 3 [],
fT 16 15 [1],
dX 17 .lss 14 16 [0,2],
aq 18 17 [3],
fa 19 18 true 3 [4],
fa 20 18 true 5 [4],
zB 21 18 true 1 19 20 [5,6,4],
ec 22 18 true 1 21 [7,4],
ew 23 18 true 0 1 [4],
ec 24 18 true 1 23 [9,4],
fa 25 18 true 4 [4],
zB 26 18 true 10 24 25 [10,11,4],
ew 27 18 true 1 26 [12,4],
ec 28 18 true 1 27 [13,4],
ej 29 18 true (.bin .lss none (.t 22) (.t 28)) [8,14,4],
iZ 30 18 29 [4,15]])
(.cond (.t 30)
.skip
(.exit 2)))
(.block 3
(.ops [
aq 31 5 [],
cM 32 .add 31 1 [0],
aq 5 32 [1,0,1]])))
def rR:bx :=
(.seq (.seq (.ops [
aq 7 4 [],
bQ 8 0 1 [],
bR 9 1 8 [1],
fT 10 9 [2],
dX 11 .lss 7 10 [0,3]])
(.cond (.t 11)
.skip
(.exit 0)))
(.seq (.block 1
(.seq (.ops [
cR 5 0 []])
(.seq (.block 2
(.loop rQ))
(.seq (.seq (.draw [
aq 33 5 [],
aq 34 3 [],
fT 35 34 [1],
dX 36 .lss 33 35 [0,2],
aq 37 36 [3],
fa 38 37 true 3 [4],
fa 39 37 true 5 [4],
zB 40 37 true 1 38 39 [5,6,4],
ec 41 37 true 1 40 [7,4],
ew 42 37 true 0 1 [4],
ec 43 37 true 1 42 [9,4],
fa 44 37 true 4 [4],
zB 45 37 true 10 43 44 [10,11,4],
ew 46 37 true 1 45 [12,4],
ec 47 37 true 1 46 [13,4],
ej 48 37 true (.bin .eql none (.t 41) (.t 47)) [8,14,4],
iZ 49 37 48 [4,15]])
(.cond (.t 49)
(.exit 1)
.skip))
(.seq (.ops [
aR 50 (.cr 1 0 [] []) [],
aq 51 3 [],
aq 52 5 [],
aR 53 (.slice 1 (.t 51) none (some (.t 52))) [1,2],
aR 54 (.append 1 8 (.t 50) (.t 53)) [0,3],
aq 6 54 [4,4,0,1,2,3,4]])
(.seq (.ops [
aq 55 6 [],
bQ 56 0 1 [],
bR 57 1 56 [1],
aq 58 4 [],
fw 59 10 57 58 [2,3],
bQ 60 1 59 [4],
bR 61 1 60 [5],
aR 62 (.cr 1 1 [.pv (.int .i64 0)] [(0,1,(.t 61))]) [6],
aR 63 (.append 1 8 (.t 55) (.t 62)) [0,7],
aq 6 63 [8,8,0,1,2,3,4,5,6,7,8]])
(.ops [
aq 64 6 [],
aq 65 3 [],
aq 66 5 [],
aR 67 (.slice 1 (.t 65) (some (.t 66)) none) [1,2],
aR 68 (.append 1 8 (.t 64) (.t 67)) [0,3],
aq 3 68 [4,4,0,1,2,3,4]])))))))
(.ops [
aq 12 4 [],
cM 13 .add 12 1 [0],
aq 4 13 [1,0,1]])))
def f158:bf:=⟨70,[.t 2],
(.seq (.ops [
df 1 0 [],
aR 2 (.mv (.c .bu)) []])
(.seq (.ops [
aR 3 (.mv (.c .bu)) []])
(.seq (.seq (.ops [
cR 4 0 []])
(.block 0
(.loop rR)))
(.seq (.ops [
aq 69 3 [],
aq 2 69 [0,0]])
.ret))))⟩
def yF:bx :=
(.seq (.ops [
dX 11 .lss 10 9 []])
(.seq (.cond (.t 11)
.skip
(.exit 0))
(.seq (.block 1
(.seq (.ops [
aq 12 10 [],
fw 13 5 8 10 [],
ck 14 5 13 [1],
aR 6 (.alloc [.pv (.int .i64 0),.pv (.bool false),.pv (.int .i64 0),.pv (.int .i64 0),.pv (.int .i64 0)]) [],
aq 5 12 [0,0,1,2,3],
dk 5 6 14 [3,2,4,0,1,2,3,4]])
(.seq (.draw [
bQ 15 2 6 [],
bR 16 1 15 [0],
cM 17 .gtr 16 0 [1],
aq 18 17 [2],
ej 19 18 true (.load true 3 (.t 2)) [3],
ej 20 18 true (.load true 3 (.t 3)) [3],
ew 21 18 true 0 6 [3],
ec 22 18 true 1 21 [6,3],
ej 23 18 true (.call 236 [.t 19,.t 20,.t 22]) [4,5,7,3,3],
ew 24 18 true 2 6 [3],
ec 25 18 true 1 24 [9,3],
ej 26 18 true (.bin .gtr none (.t 23) (.t 25)) [8,10,3],
iZ 27 18 26 [3,11]])
(.cond (.t 27)
(.seq (.ops [
aq 28 5 [],
aR 29 (.build [.pv (.int .i64 0),.pv (.int .i64 0)] [(0,1,(.t 28)),(1,1,(.c (.pv (.int .i64 11))))]) [0],
df 30 29 [1],
aR 31 (.lr 1 (.t 30)) [2],
aq 4 31 [3,0,1,2,3]])
.ret)
.skip))))
(.ops [
cM 32 .add 10 1 [],
aq 10 32 [0]]))))
def f234:bf:=⟨33,[.t 4],
(.seq (.ops [
df 2 0 [],
df 3 1 [],
jo 4 []])
(.seq (.seq (.ops [
bQ 7 1 2 [],
bR 8 1 7 [0],
fT 9 8 [1],
cR 10 0 []])
(.block 0
(.loop yF)))
(.seq (.ops [
jo 4 []])
.ret)))⟩
def uD:bx :=
(.seq (.ops [
dX 18 .lss 17 16 []])
(.seq (.cond (.t 18)
.skip
(.exit 0))
(.seq (.block 1
(.seq (.ops [
fw 19 8 15 17 [],
ck 20 8 19 [0],
aR 11 (.alloc [.pv (.int .i64 0),.pv (.int .i64 0),.pv (.int .i64 0),.pv (.int .u64 0),.pv (.int .u64 0),.pv (.int .u64 0),.pv (.int .u64 0),.pv (.int .i64 0)]) [],
dk 8 11 20 [2,1,0,1,2]])
(.seq (.ops [
ck 22 3 4 [],
bQ 23 7 11 [],
bR 24 1 23 [1],
aR 25 (.call 82 [.t 22,.t 24]) [0,2],
aq 21 25 [3],
fu 26 21 0 [4],
fu 27 21 1 [4],
aR 12 (.alloc [.pv (.int .i64 0),.pv (.int .i64 0),.pv (.int .u64 0),.pv (.int .u64 0),.pv (.int .u64 0),.pv (.int .u64 0),.pv (.int .u64 0),.pv (.int .u64 0),.pv (.int .u64 0),.pv (.int .u64 0)]) [],
dk 10 12 26 [7,5,3,0,1,2,3,4,5,7],
aq 13 27 [6,8,0,1,2,3,4,5,6,7,8]])
(.seq (.ops [
bQ 28 1 11 [],
bR 29 1 28 [0],
aq 30 2 [],
dX 31 .eql 29 30 [1,2],
aq 32 31 [3],
ew 33 32 true 7 11 [4],
ec 34 32 true 1 33 [5,4],
gD 35 32 true .neq 34 0 [6,4],
iZ 36 32 35 [4,7],
aq 37 36 [8,4],
fa 38 37 true 13 [9],
iZ 39 37 38 [9,10],
aq 40 39 [11,9],
ew 41 40 true 1 12 [12],
ec 42 40 true 1 41 [13,12],
fa 43 40 true 3 [12],
ej 44 40 true (.bin .eql none (.t 42) (.t 43)) [14,15,12],
iZ 45 40 44 [12,16]])
(.cond (.t 45)
(.ops [
aq 46 9 [],
cM 47 .add 46 1 [0],
aq 9 47 [1,0,1]])
.skip)))))
(.ops [
cM 48 .add 17 1 [],
aq 17 48 [0]]))))
def f235:bf:=⟨50,[.t 8],
(.seq (.ops [
df 4 0 [],
df 5 1 [],
cR 8 0 []])
(.seq (.ops [
cR 9 0 []])
(.seq (.seq (.ops [
bQ 14 0 5 [],
bR 15 1 14 [0],
fT 16 15 [1],
cR 17 0 []])
(.block 0
(.loop uD)))
(.seq (.ops [
aq 49 9 [],
aq 8 49 [0,0]])
.ret))))⟩
def yG:bx :=
(.seq (.ops [
dX 14 .lss 13 12 []])
(.seq (.cond (.t 14)
.skip
(.exit 0))
(.seq (.block 1
(.seq (.ops [
fw 15 1 11 13 [],
bR 16 1 15 [0],
aq 9 16 [1,0,1]])
(.ops [
aq 17 7 [],
ck 18 3 3 [],
ck 19 3 4 [],
aq 20 2 [],
aq 21 9 [],
aR 22 (.call 235 [.t 18,.t 19,.t 20,.t 21]) [1,2,3,4],
aR 23 (.cr 1 1 [.pv (.int .i64 0)] [(0,1,(.t 22))]) [5],
aR 24 (.append 1 8 (.t 17) (.t 23)) [0,6,5],
aq 7 24 [7,7,0,1,2,3,4,5,6,7]])))
(.ops [
cM 25 .add 13 1 [],
aq 13 25 [0]]))))
def f236:bf:=⟨34,[.t 6],
(.seq (.ops [
df 3 0 [],
df 4 1 [],
cR 6 0 []])
(.seq (.ops [
aR 7 (.mv (.c .bu)) []])
(.seq (.seq (.ops [
ck 10 3 3 [],
aR 11 (.call 84 [.t 10]) [0],
fT 12 11 [1],
cR 13 0 []])
(.block 0
(.loop yG)))
(.seq (.seq (.ops [
aq 26 7 [],
fT 27 26 [0],
cM 28 .eql 27 0 [1]])
(.cond (.t 28)
(.seq (.ops [
cR 6 0 []])
.ret)
.skip))
(.seq (.ops [
aq 29 7 [],
aR 30 (.call 290 [.t 29]) [0],
aq 31 7 [],
aR 32 (.call 291 [.t 31]) [2,1],
dX 33 .sub 30 32 [1,3],
aq 6 33 [4,3,0,1,2,3,4]])
.ret)))))⟩
section
def ea(s:bc):List Int:=eo (s.nodes.map Node.bW)
structure NT(T:cK):Prop where
 Fs:T.fW 293=some oU
 FE:T.raw 293=true
 Fq:T.fW 281=some oj
 FD:T.raw 281=true
 Uc:Std T 84 f84
section
variable{T:cK}
theorem D0(s:bc)(hl:s.nodes.length<=2^29)(Q:Exit->St->Prop)
    (bS:∀fr hp nx,fo (look fr 3) hp 1 ((s.nodes.map Node.bW).map cD) 1 nx->Q (.exit 0) ⟨fr,hp,nx⟩) :
    ∀(rest:List Node) (i:Nat) (acc:List Int),s.nodes.drop i=rest->i<=s.nodes.length->acc++rest.map Node.bW=s.nodes.map Node.bW->∀(fr:List (Nat×AV)) (hp:Hl) (nx:Nat),1<=nx->look fr 7=.pv (.slice (s.nodes.map bC))->look fr 8=.pv (.int .i64 s.nodes.length)->look fr 9=.pv (.int .i64 i) ->
     fo (look fr 3) hp 1 (acc.map cD) 1 nx->Wp T false (.loop Dx) ⟨fr,hp,nx⟩ Q:=by
 intro rest;induction rest with
 |nil =>
  intro i acc hd hi ho fr hp nx ie h7 h8 h9 h3;have hlen:=drop_nil hd hi;simp only[aC,bG]at ho;subst ho;rw[az,aY Dx.eq_1];simp only[rL',aa,simprocAttr,h7,h8,h9,hlen,aP];exact bS _ _ _ (by simp only[aj,Nat.reduceEqDiff];exact h3)
 |cons n r ih =>
  intro i acc hd hi ho fr hp nx ie h7 h8 h9 h3;obtain⟨aN,hlt,hw,dh,cW,hb⟩:=drop_cons hd (by omega);have hlen:acc.length+1<=2^30:=by
   have:=da List.length ho;simp at this;omega
  have qd:=((h3.over (i:=nx) (b:=.var [.pv (.int .i64 0),.pv (.int .i64 0),.pv (.int .u64 0),.pv (.int .u64 0),.pv (.int .u64 0),.pv (.int .u64 0),.pv (.int .u64 0),.pv (.int .u64 0),.pv (.int .u64 0),.pv (.int .u64 0)]) (.inr (ax _))).over (i:=nx) (b:=.var (dL (bC n))) (.inr (ax _))).up (Nat.le_succ nx);obtain⟨v',W,k,a1,a2,a3⟩:=qd.mh (by omega) (cD n.bW) (by rw[al];omega);simp only[cD,bC,dL]at a1 a3;rw[az,aY Dx.eq_1];simp only[rL',aa,simprocAttr,h7,h8,h9,hlt,aN,bC,bt,dV,chunk,cn,bL,bV,a1,hw];refine ih (i+1) (acc++[n.bW]) dh cW (by rw[<-ho];simp) _ _ _ (by omega) ?_ ?_ ?_ ?_
  all_goals try simp only[aj,Nat.reduceEqDiff,h7,h8]
  simpa only[bh,aX,aC,cD]using a3
theorem IK(S:NT T)(s:bc)(hl:s.nodes.length<=2^29):ba T 84 [aF s] (.slice ((ea s).map cD)):=by
 refine gives S.Uc rfl ?_;simp only[f84,rL',aa,simprocAttr,aF];refine D0 s hl _ (fun fr hp nx h3=>?_) s.nodes 0 [] rfl (aO _) rfl _ _ _ (ax _) rfl rfl rfl fo.nil;rcases h3 with⟨he,h3⟩|⟨id,h3,i1,i2,i3⟩
 ·have hz:s.nodes.map Node.bW=[]:=by simpa using he
  simp only[rL',aa,simprocAttr,h3];rw[dr S.FE (iD S.Fs (show oU [.bu] hp nx=some (.pv (.tuple []),hp,nx)from rfl))];simp only[rL',aa,simprocAttr,h3];rw[dr S.FD (iD S.Fq (show oj [.bu] hp nx=some (.bu,hp,nx)from rfl))];have hn:eo []=[]:=bX (by have:=eU [];simpa using this);simp only[rL',aa,simprocAttr,ea,hz,hn,aC]
 ·have hlen:(s.nodes.map Node.bW).length<=2^30:=by rw[al];omega
  have e1:oU [.ms id] hp nx=some (.pv (.tuple []),(id,.row 1 ((fZ (s.nodes.map Node.bW)).map cD))::hp,nx):=by
   simp only[oU,i3,mK,hlen,bz]
  simp only[rL',aa,simprocAttr,h3];rw[dr S.FE (iD S.Fs e1)];simp only[rL',aa,simprocAttr,h3];have Hm:(fZ (s.nodes.map Node.bW)).length<=2^30:=by rw[kJ];exact hlen
  have e2:oj [.ms id] ((id,.row 1 ((fZ (s.nodes.map Node.bW)).map cD))::hp) nx=some (.gd id 0 (ea s).length,(id,.row 1 (((ea s)++List.replicate ((fZ (s.nodes.map Node.bW)).length-(ea s).length) 0).map cD))::(id,.row 1 ((fZ (s.nodes.map Node.bW)).map cD))::hp,nx):=by
   simp only[oj,aD,bz,mK,Hm];rfl
  rw[dr S.FD (iD S.Fq e2)];have hle:(ea s).length<=(ea s).length+(List.replicate ((fZ (s.nodes.map Node.bW)).length-(ea s).length) (0:Int)).length:=Nat.le_add_right _ _;simp only[rL',aa,simprocAttr,bh,aG,hle,List.take_append_of_le_length,al,ax,zy];rw[qx (by rw[al];exact ax _)]
/-! ### QD -/
def qq(s:bc)(node bW:Int):Bool:=match dv node s.nodes with
 |some x=>decide (x.bW=bW)
 |none=>false
def uT(s:bc)(load bW:Int)(p:dm):Bool:=decide (p.load=load)&&(decide (p.node≠0)&&qq s p.node bW)
def fN(s:bc)(load bW:Int):List dm->Nat
 |[]=>0
 |p::r=>(if uT s load bW p=true then 1 else 0)+fN s load bW r
theorem lN(s:bc)(load bW:Int):∀l,fN s load bW l<=l.length
 |[]=>ax _
 |p::r=>by
  have:=lN s load bW r;simp only[fN,ay];split <;>omega
structure Bu(T:cK):Prop where
 z:NT T
 K5:Std T 82 f82
 Rr:Std T 235 f235
 Rt:Std T 236 f236
 Sw:Ef T 290 (qJ mostL)
 Sx:Ef T 291 (qJ leastL)
 Oc:T.flat 290=true
 Od:T.flat 291=true
theorem BR(S:Bu T)(s:bc)(t:State)(load bW:Int)(hn:s.nodes.length<=2^29)(hl:t.pods.length<=2^29)(Q:Exit->St->Prop)
    (bS:∀fr hp nx,look fr 9=.pv (.int .i64 (fN s load bW t.pods:Nat))->Q (.exit 0) ⟨fr,hp,nx⟩) :
    ∀(rest:List dm) (i acc:Nat),t.pods.drop i=rest->i<=t.pods.length->acc+fN s load bW rest=fN s load bW t.pods->∀(fr:List (Nat×AV)) (hp:Hl) (nx:Nat),2<=nx->look fr 2=.pv (.int .i64 load)->look fr 3=.pv (.int .i64 bW)->look fr 4=.ptr 0 0 0 ->
     ah hp 0=.var [.pv (.slice (s.nodes.map bC)),.pv (.slice (s.aT.map bO)),.pv (.slice (s.pods.map aK))]->look fr 9=.pv (.int .i64 (acc:Int))->look fr 15=.pv (.slice (t.pods.map aK))->look fr 16=.pv (.int .i64 t.pods.length)->look fr 17=.pv (.int .i64 i)->Wp T false (.loop uD) ⟨fr,hp,nx⟩ Q:=by
 intro rest;induction rest with
 |nil =>
  intro i acc hd hi ho fr hp nx ie g2 g3 g4 b0 g9 tf tv JO;have hlen:=drop_nil hd hi;simp only[fN,fb]at ho;subst ho;rw[az,aY uD.eq_1];simp only[rL',aa,simprocAttr,tf,tv,JO,hlen,aP];exact bS _ _ _ (by simp only[aj,Nat.reduceEqDiff];exact g9)
 |cons p r ih =>
  intro i acc hd hi ho fr hp nx ie g2 g3 g4 b0 g9 tf tv JO;obtain⟨aN,hlt,hw,dh,cW,hb⟩:=drop_cons hd (by omega);have n0:¬nx=0:=by omega
  have C7:acc+1<=2^30:=by
   have h1:=lN s load bW t.pods;have h2:=lN s load bW (p::r);omega
  have k:=tA S.K5 s p.node (by omega);simp only[aF]at k;have skip:uT s load bW p=false->∀fG hp' cC,2<=cC->look fG 2=look fr 2->look fG 3=look fr 3->look fG 4=look fr 4->ah hp' 0=ah hp 0->look fG 9=look fr 9->look fG 15=look fr 15->look fG 16=look fr 16->look fG 17=.pv (.int .i64 ((i+1:Nat):Int))->Wp T false (.loop uD) ⟨fG,hp',cC⟩ Q:=by
   intro h fG hp' cC q1 q2 q3 q4 q5 q6 q7 q8 q9;exact ih (i+1) acc dh cW (by rw[<-ho,fN,h];simp) _ _ _ q1 (q2.trans g2) (q3.trans g3) (q4.trans g4) (q5.trans b0) (q6.trans g9) (q7.trans tf) (q8.trans tv) q9
  rw[az,aY uD.eq_1];by_cases c1:p.load=load
  ·have d1:=bJ c1;by_cases c2:p.node=0
   ·have d2:=bJ c2;have hz:uT s load bW p=false:=by simp[uT,c2]
    cases qW:dv p.node s.nodes with
    |none =>
     rw[qW]at k;simp only[jZ,bC,mN]at k;simp only[rL',aa,simprocAttr,g2,g3,g4,b0,tf,tv,JO,hlt,aN,aK,n0,k.call,d1,d2,hw];refine skip hz _ _ _ (by omega) ?_ ?_ ?_ ?_ ?_ ?_ ?_ ?_
     all_goals try simp only[aj,Nat.reduceEqDiff,n0]
    |some x =>
     rw[qW]at k;simp only[jZ,bC]at k;simp only[rL',aa,simprocAttr,g2,g3,g4,b0,tf,tv,JO,hlt,aN,aK,n0,k.call,d1,d2,hw];refine skip hz _ _ _ (by omega) ?_ ?_ ?_ ?_ ?_ ?_ ?_ ?_
     all_goals try simp only[aj,Nat.reduceEqDiff,n0]
   ·cases qW:dv p.node s.nodes with
    |none =>
     have hz:uT s load bW p=false:=by simp[uT,qq,qW]
     rw[qW]at k;simp only[jZ,bC,mN]at k;simp only[rL',aa,simprocAttr,g2,g3,g4,b0,tf,tv,JO,hlt,aN,aK,n0,k.call,d1,c2,hw];refine skip hz _ _ _ (by omega) ?_ ?_ ?_ ?_ ?_ ?_ ?_ ?_
     all_goals try simp only[aj,Nat.reduceEqDiff,n0]
    |some x =>
     rw[qW]at k;simp only[jZ,bC]at k;by_cases c3:x.bW=bW
     ·have d3:=bJ c3;have hz:uT s load bW p=true:=by simp[uT,qq,qW,c1,c2,c3]
      have MQ:IntKind.i64.wrap ((acc:Int)+1)=((acc+1:Nat):Int):=by rw[dS] <;>omega
      simp only[rL',aa,simprocAttr,g2,g3,g4,b0,g9,tf,tv,JO,hlt,aN,aK,n0,k.call,d1,c2,d3,hw,MQ];refine ih (i+1) (acc+1) dh cW (by rw[<-ho,fN,hz];simp;omega) _ _ _ (by omega) ?_ ?_ ?_ ?_ ?_ ?_ ?_ ?_
      all_goals try simp only[aj,Nat.reduceEqDiff,n0,g2,g3,g4,b0,tf,tv]
     ·have hz:uT s load bW p=false:=by simp[uT,qq,qW,c3]
      simp only[rL',aa,simprocAttr,g2,g3,g4,b0,tf,tv,JO,hlt,aN,aK,n0,k.call,d1,c2,c3,hw];refine skip hz _ _ _ (by omega) ?_ ?_ ?_ ?_ ?_ ?_ ?_ ?_
      all_goals try simp only[aj,Nat.reduceEqDiff,n0]
  ·have hz:uT s load bW p=false:=by simp[uT,c1]
   cases qW:dv p.node s.nodes with
   |none =>
    rw[qW]at k;simp only[jZ,bC,mN]at k;simp only[rL',aa,simprocAttr,g2,g3,g4,b0,tf,tv,JO,hlt,aN,aK,n0,k.call,c1,hw];refine skip hz _ _ _ (by omega) ?_ ?_ ?_ ?_ ?_ ?_ ?_ ?_
    all_goals try simp only[aj,Nat.reduceEqDiff,n0]
   |some x =>
    rw[qW]at k;simp only[jZ,bC]at k;simp only[rL',aa,simprocAttr,g2,g3,g4,b0,tf,tv,JO,hlt,aN,aK,n0,k.call,c1,hw];refine skip hz _ _ _ (by omega) ?_ ?_ ?_ ?_ ?_ ?_ ?_ ?_
    all_goals try simp only[aj,Nat.reduceEqDiff,n0]
theorem EC(S:Bu T)(s:bc)(t:State)(load bW:Int)(hn:s.nodes.length<=2^29)(hl:t.pods.length<=2^29):ba T 235 [aF s,aw t,.int .i64 load,.int .i64 bW] (.int .i64 (fN s load bW t.pods:Nat)):=by
 refine gives S.Rr rfl ?_;simp only[f235,rL',aa,simprocAttr,aF,aw];refine BR S s t load bW hn hl _ (fun fr hp nx g9=>?_) t.pods 0 0 rfl (aO _) (aM _) _ _ _ (ax _) rfl rfl rfl rfl rfl rfl rfl rfl;simp only[rL',aa,simprocAttr,g9]
/-! ### SQ -/
def oi(s:bc)(load:Int)(pods:List dm):List Int:=(ea s).map fun z=>((fN s load z pods:Nat):Int)
def zp(l:List Int):Int:=match l with
 |[]=>0
 |n::r=>mostL (n::r)-leastL (n::r)
def vA(s:bc)(load:Int)(pods:List dm):Int:=zp (oi s load pods)
theorem FN(S:Bu T)(s:bc)(t:State)(load:Int)(hn:s.nodes.length<=2^29)(hl:t.pods.length<=2^29)(Q:Exit->St->Prop)
    (bS:∀fr hp nx,fo (look fr 7) hp 1 ((oi s load t.pods).map cD) 2 nx->Q (.exit 0) ⟨fr,hp,nx⟩) :
    ∀(rest:List Int) (i:Nat) (acc:List Int),(ea s).drop i=rest->i<=(ea s).length->acc++rest.map (fun z=>((fN s load z t.pods:Nat):Int))=oi s load t.pods->∀(fr:List (Nat×AV)) (hp:Hl) (nx:Nat),2<=nx->look fr 2=.pv (.int .i64 load)->look fr 3=.ptr 0 0 0->look fr 4=.ptr 1 0 0 ->
     ah hp 0=.var [.pv (.slice (s.nodes.map bC)),.pv (.slice (s.aT.map bO)),.pv (.slice (s.pods.map aK))]->ah hp 1=.var [.pv (.slice (t.pods.map aK)),.pv (.int .i64 t.pre),.pv (.int .i64 t.fe)] ->
     look fr 11=.pv (.slice ((ea s).map cD))->look fr 12=.pv (.int .i64 (ea s).length)->look fr 13=.pv (.int .i64 i)->fo (look fr 7) hp 1 (acc.map cD) 2 nx->Wp T false (.loop yG) ⟨fr,hp,nx⟩ Q:=by
 intro rest;have Tv:(ea s).length<=2^29:=by
  have:=eU (s.nodes.map Node.bW);rw[al]at this;exact cG this hn
 induction rest with
 |nil =>
  intro i acc hd hi ho fr hp nx ie g2 g3 g4 b0 b1 ET nS pg h7;have hlen:=drop_nil hd hi;simp only[aC,bG]at ho;subst ho;rw[az,aY yG.eq_1];simp only[rL',aa,simprocAttr,ET,nS,pg,hlen,aP];exact bS _ _ _ (by simp only[aj,Nat.reduceEqDiff];exact h7)
 |cons z r ih =>
  intro i acc hd hi ho fr hp nx ie g2 g3 g4 b0 b1 ET nS pg h7;obtain⟨aN,hlt,hw,dh,cW,hb⟩:=drop_cons hd (by omega);have hlen:acc.length+1<=2^30:=by
   have:=da List.length ho;simp[oi]at this;omega
  have k:=EC S s t load z hn hl;simp only[aF,aw]at k;obtain⟨v',W,m,a1,a2,a3⟩:=h7.mh (by omega) (cD (fN s load z t.pods:Nat)) (by rw[al];omega);simp only[cD]at a1 a3;rw[az,aY yG.eq_1];simp only[rL',aa,simprocAttr,g2,g3,g4,b0,b1,ET,nS,pg,hlt,aN,cD,k.call,bt,dV,chunk,cn,bL,bV,a1,hw];have z0:=a2 0 (by omega);have z1:=a2 1 (by omega);simp only[cD]at z0 z1;refine ih (i+1) (acc++[((fN s load z t.pods:Nat):Int)]) dh cW (by rw[<-ho];simp) _ _ _ (by omega) ?_ ?_ ?_ ?_ ?_ ?_ ?_ ?_ ?_
  all_goals try simp only[aj,Nat.reduceEqDiff,g2,g3,g4,ET,nS]
  ·exact z0.trans b0
  ·exact z1.trans b1
  ·simpa only[bh,aX,aC,cD]using a3
theorem nI(lo hi:Int):∀(l:List Int) (a:Int),lo<=a->a<=hi->(∀x∈l,lo<=x/\x<=hi)->lo<=l.foldl max a/\l.foldl max a<=hi
 |[],a,h1,h2,_=>⟨h1,h2⟩
 |x::r,a,h1,h2,h=>by
  have hx:=h x (bN ..);exact nI lo hi r (max a x) (by omega) (by omega) (fun y hy=>h y (bd _ hy))
theorem nJ(lo hi:Int):∀(l:List Int) (a:Int),lo<=a->a<=hi->(∀x∈l,lo<=x/\x<=hi)->lo<=l.foldl min a/\l.foldl min a<=hi
 |[],a,h1,h2,_=>⟨h1,h2⟩
 |x::r,a,h1,h2,h=>by
  have hx:=h x (bN ..);exact nJ lo hi r (min a x) (by omega) (by omega) (fun y hy=>h y (bd _ hy))
theorem AU{lo hi:Int}{n:Int}{r:List Int}(h:∀x∈n::r,lo<=x/\x<=hi):lo<=mostL (n::r)/\mostL (n::r)<=hi:=nI lo hi _ _ (h n (by simp)).1 (h n (by simp)).2 h
theorem z7{lo hi:Int}{n:Int}{r:List Int}(h:∀x∈n::r,lo<=x/\x<=hi):lo<=leastL (n::r)/\leastL (n::r)<=hi:=nJ lo hi _ _ (h n (by simp)).1 (h n (by simp)).2 h
theorem A4(s:bc)(load:Int)(pods:List dm):∀x∈oi s load pods,0<=x/\x<=pods.length:=by
 intro x hx;simp only[oi,cw]at hx;obtain⟨z,_,rfl⟩:=hx;have:=lN s load z pods;omega
theorem Ir(S:Bu T)(s:bc)(t:State)(load:Int)(hn:s.nodes.length<=2^29)(hl:t.pods.length<=2^29):ba T 236 [aF s,aw t,.int .i64 load] (.int .i64 (vA s load t.pods)):=by
 refine gives S.Rt rfl ?_;have k:=IK S.z s hn;simp only[aF]at k;simp only[f236,rL',aa,simprocAttr,aF,aw,k.call];refine FN S s t load hn hl _ (fun fr hp nx h7=>?_) (ea s) 0 [] rfl (aO _) rfl _ _ _ (ax _) rfl rfl rfl rfl rfl rfl ?_ rfl fo.nil
 ·have hr:=A4 s load t.pods;have K7:(oi s load t.pods).length<=2^30:=by
   have:=eU (s.nodes.map Node.bW);rw[al]at this;simp only[oi,al];exact cG this (by omega)
  have e7:=h7.len;rw[al]at e7;simp only[vA];cases hc:oi s load t.pods with
  |nil =>
   rw[hc]at e7;have z0:((0:Nat):Int)=0:=rfl;simp only[rL',aa,simprocAttr,e7,z0,zp]
  |cons n r =>
   rw[hc]at e7 hr h7 K7;have k1:=(DB S.Sw (n::r) (by simp) K7).sF S.Oc rfl;have k2:=(DB S.Sx (n::r) (by simp) K7).sF S.Od rfl;rcases h7 with⟨he,h7⟩|⟨id,h7,i1,i2,i3⟩
   ·simp at he
   ·have r1:=AU hr;have r2:=z7 hr;have UT:IntKind.i64.wrap (mostL (n::r)-leastL (n::r))=mostL (n::r)-leastL (n::r):=by rw[dS] <;>omega
    have eA:¬((r.length+1:Nat):Int)=0:=by omega
    simp only[rL',aa,simprocAttr,h7,i3,eA,k1,k2,UT,zp]
 ·simp only[rL',aa,simprocAttr]
end
end
def Dn:bx :=
(.seq (.ops [
dX 12 .lss 11 10 []])
(.seq (.cond (.t 12)
.skip
(.exit 0))
(.seq (.block 1
(.seq (.ops [
aq 13 11 [],
fw 14 5 9 11 [],
ck 15 5 14 [1],
aR 6 (.alloc [.pv (.int .i64 0),.pv (.bool false),.pv (.int .i64 0),.pv (.int .i64 0),.pv (.int .i64 0)]) [],
aq 5 13 [0,0,1,2,3],
dk 5 6 15 [3,2,4,0,1,2,3,4]])
(.seq (.ops [
ck 16 3 3 [],
bQ 17 0 6 [],
bR 18 1 17 [1],
aR 19 (.call 71 [.t 16,.t 18]) [0,2],
aq 7 19 [3,3,0,1,2,3]])
(.block 2
(.seq (.ops [
aq 21 7 [],
bQ 22 3 6 [],
bR 23 1 22 [1],
dX 24 .lss 21 23 [0,2],
aq 20 24 [3]])
(.cond (.t 20)
(.seq (.ops [
aq 25 5 [],
aR 26 (.build [.pv (.int .i64 0),.pv (.int .i64 0)] [(0,1,(.t 25)),(1,1,(.c (.pv (.int .i64 12))))]) [0],
df 27 26 [1],
aR 28 (.lr 1 (.t 27)) [2],
aq 4 28 [3,0,1,2,3]])
.ret)
(.seq (.ops [
aq 30 7 [],
bQ 31 4 6 [],
bR 32 1 31 [1],
dX 33 .gtr 30 32 [0,2],
aq 29 33 [3]])
(.cond (.t 29)
(.seq (.ops [
aq 34 5 [],
aR 35 (.build [.pv (.int .i64 0),.pv (.int .i64 0)] [(0,1,(.t 34)),(1,1,(.c (.pv (.int .i64 13))))]) [0],
df 36 35 [1],
aR 37 (.lr 1 (.t 36)) [2],
aq 4 37 [3,0,1,2,3]])
.ret)
.skip))))))))
(.ops [
cM 38 .add 11 1 [],
aq 11 38 [0]]))))
def f70:bf:=⟨39,[.t 4],
(.seq (.ops [
df 2 0 [],
df 3 1 [],
jo 4 []])
(.seq (.seq (.ops [
bQ 8 1 2 [],
bR 9 1 8 [0],
fT 10 9 [1],
cR 11 0 []])
(.block 0
(.loop Dn)))
(.seq (.ops [
jo 4 []])
.ret)))⟩
def Dp:bx :=
(.seq (.ops [
dX 12 .lss 11 10 []])
(.seq (.cond (.t 12)
.skip
(.exit 0))
(.seq (.block 1
(.seq (.ops [
fw 13 8 9 11 [],
ck 14 8 13 [0],
aR 7 (.alloc [.pv (.int .i64 0),.pv (.int .i64 0),.pv (.int .i64 0),.pv (.int .u64 0),.pv (.int .u64 0),.pv (.int .u64 0),.pv (.int .u64 0),.pv (.int .i64 0)]) [],
dk 8 7 14 [2,1,0,1,2]])
(.seq (.ops [
bQ 15 1 7 [],
bR 16 1 15 [0],
aq 17 1 [],
dX 18 .eql 16 17 [1,2],
aq 19 18 [3],
ew 20 19 true 7 7 [4],
ec 21 19 true 1 20 [5,4],
gD 22 19 true .neq 21 0 [6,4],
iZ 23 19 22 [4,7]])
(.cond (.t 23)
(.ops [
aq 24 5 [],
cM 25 .add 24 1 [0],
aq 5 25 [1,0,1]])
.skip))))
(.ops [
cM 26 .add 11 1 [],
aq 11 26 [0]]))))
def f71:bf:=⟨28,[.t 4],
(.seq (.ops [
df 2 0 [],
cR 4 0 []])
(.seq (.ops [
cR 5 0 []])
(.seq (.seq (.ops [
bQ 8 0 2 [],
bR 9 1 8 [0],
fT 10 9 [1],
cR 11 0 []])
(.block 0
(.loop Dp)))
(.seq (.ops [
aq 27 5 [],
aq 4 27 [0,0]])
.ret))))⟩
def f72:bf:=⟨18,[.t 4],
(.seq (.ops [
df 2 0 [],
df 3 1 [],
jo 4 []])
(.seq (.seq (.ops [
bQ 5 1 3 [],
bR 6 1 5 [0],
bQ 7 1 2 [],
bR 8 1 7 [2],
dX 9 .gtr 6 8 [1,3],
aq 10 9 [4],
ew 11 10 false 2 3 [5],
ec 12 10 false 1 11 [6,5],
ew 13 10 false 2 2 [5],
ec 14 10 false 1 13 [8,5],
ej 15 10 false (.bin .gtr none (.t 12) (.t 14)) [7,9,5],
jT 16 10 15 [5,10]])
(.cond (.t 16)
(.seq (.ops [
aR 17 (.lr 0 (.c (.pv (.int .i64 15)))) [],
aq 4 17 [0,0]])
.ret)
.skip))
(.seq (.ops [
jo 4 []])
.ret)))⟩
def Me:bx :=
(.seq (.seq (.ops [
aq 6 3 [],
cM 7 .leq 6 17 [0]])
(.cond (.t 7)
.skip
(.exit 0)))
(.seq (.block 1
(.seq (.ops [
aq 10 0 [],
aq 11 3 [],
aR 12 (.lr 0 (.t 11)) [1],
aR 13 (.bin .eql (some (.iface true)) (.t 10) (.t 12)) [0,2]])
(.cond (.t 13)
(.seq (.ops [
aq 14 3 [],
aq 2 14 [0,0]])
.ret)
.skip)))
(.ops [
aq 8 3 [],
cM 9 .add 8 1 [0],
aq 3 9 [1,0,1]])))
def f102:bf:=⟨15,[.t 2],
(.seq (.ops [
cR 2 0 []])
(.seq (.seq (.ops [
aq 4 0 [],
aR 5 (.bin .eql (some (.iface true)) (.t 4) (.c (.pv .dI))) [0]])
(.cond (.t 5)
(.seq (.ops [
cR 2 0 []])
.ret)
.skip))
(.seq (.seq (.ops [
cR 3 1 []])
(.block 0
(.loop Me)))
(.seq (.ops [
cR 2 (-1) []])
.ret))))⟩
def yd:bx :=
(.seq (.seq (.ops [
aq 8 6 [],
bQ 9 1 2 [],
bR 10 1 9 [1],
fT 11 10 [2],
dX 12 .lss 8 11 [0,3]])
(.cond (.t 12)
.skip
(.exit 0)))
(.seq (.block 1
(.seq (.draw [
ck 15 3 3 [],
bQ 16 1 2 [],
bR 17 1 16 [1],
aq 18 6 [],
fw 19 5 17 18 [2,3],
bQ 20 0 19 [4],
bR 21 1 20 [5],
aR 22 (.call 176 [.t 15,.t 21]) [0,6],
aq 7 22 [7,7,0,1,2,3,4,5,6,7]])
(.seq (.seq (.ops [
aq 23 7 [],
bQ 24 1 2 [],
bR 25 1 24 [1],
aq 26 6 [],
fw 27 5 25 26 [2,3],
bQ 28 3 27 [4],
bR 29 1 28 [5],
dX 30 .lss 23 29 [0,6]])
(.cond (.t 30)
(.seq (.ops [
aq 31 6 [],
cR 4 12 [],
aq 5 31 [0,1,0,1]])
.ret)
.skip))
(.seq (.ops [
aq 32 7 [],
bQ 33 1 2 [],
bR 34 1 33 [1],
aq 35 6 [],
fw 36 5 34 35 [2,3],
bQ 37 4 36 [4],
bR 38 1 37 [5],
dX 39 .gtr 32 38 [0,6]])
(.cond (.t 39)
(.seq (.ops [
aq 40 6 [],
cR 4 13 [],
aq 5 40 [0,1,0,1]])
.ret)
.skip)))))
(.ops [
aq 13 6 [],
cM 14 .add 13 1 [0],
aq 6 14 [1,0,1]])))
def f173:bf:=⟨41,[.t 4,.t 5],
(.seq (.ops [
df 2 0 [],
df 3 1 [],
cR 4 0 [],
cR 5 0 [2]])
(.seq (.seq (.ops [
cR 6 0 []])
(.block 0
(.loop yd)))
(.seq (.ops [
cR 4 0 [],
cR 5 (-1) [0,0]])
.ret)))⟩
def ye:bx :=
(.seq (.seq (.ops [
aq 7 6 [],
bQ 8 0 2 [],
bR 9 1 8 [1],
fT 10 9 [2],
dX 11 .lss 7 10 [0,3]])
(.cond (.t 11)
.skip
(.exit 0)))
(.seq (.block 1
(.seq (.ops [
bQ 14 0 2 [],
bR 15 1 14 [0],
aq 16 6 [],
fw 17 8 15 16 [1,2],
bQ 18 1 17 [3],
bR 19 1 18 [4],
aq 20 1 [],
dX 21 .eql 19 20 [5,6],
aq 22 21 [7],
ew 23 22 true 0 2 [8],
ec 24 22 true 1 23 [9,8],
fa 25 22 true 6 [8],
zB 26 22 true 8 24 25 [10,11,8],
ew 27 22 true 7 26 [12,8],
ec 28 22 true 1 27 [13,8],
gD 29 22 true .neq 28 0 [14,8],
iZ 30 22 29 [8,15]])
(.cond (.t 30)
(.ops [
aq 31 5 [],
cM 32 .add 31 1 [0],
aq 5 32 [1,0,1]])
.skip)))
(.ops [
aq 12 6 [],
cM 13 .add 12 1 [0],
aq 6 13 [1,0,1]])))
def f176:bf:=⟨34,[.t 4],
(.seq (.ops [
df 2 0 [],
cR 4 0 []])
(.seq (.ops [
cR 5 0 []])
(.seq (.seq (.ops [
cR 6 0 []])
(.block 0
(.loop ye)))
(.seq (.ops [
aq 33 5 [],
aq 4 33 [0,0]])
.ret))))⟩
def f179:bf:=⟨17,[.t 4],
(.seq (.ops [
df 2 0 [],
df 3 1 [],
fV 4 false []])
(.seq (.ops [
bQ 5 1 3 [],
bR 6 1 5 [0],
bQ 7 1 2 [],
bR 8 1 7 [2],
dX 9 .gtr 6 8 [1,3],
aq 10 9 [4],
ew 11 10 false 2 3 [5],
ec 12 10 false 1 11 [6,5],
ew 13 10 false 2 2 [5],
ec 14 10 false 1 13 [8,5],
ej 15 10 false (.bin .gtr none (.t 12) (.t 14)) [7,9,5],
jT 16 10 15 [5,10],
aq 4 16 [11,5,0,1,2,3,4,5,6,7,8,9,10,11]])
.ret))⟩
section
section
variable{T:cK}
def gC(load:Int):List dm->Nat
 |[]=>0
 |p::r=>(if p.load=load/\p.node≠0 then 1 else 0)+gC load r
theorem FM(load:Int)(pods:List dm)(hl:pods.length<=2^30)(Q:Exit->St->Prop)(total:Nat)(hQ:∀fr hp nx,look fr 5=.pv (.int .i64 total)->Q (.exit 0) ⟨fr,hp,nx⟩) :
    ∀(rest:List dm) (i k:Nat),pods.drop i=rest->i<=pods.length->k<=i->k+gC load rest=total->∀(fr:List (Nat×AV)) (hp:Hl) (nx:Nat),look fr 5=.pv (.int .i64 k)->look fr 1=.pv (.int .i64 load) ->
     look fr 9=.pv (.slice (pods.map aK))->look fr 10=.pv (.int .i64 pods.length)->look fr 11=.pv (.int .i64 i)->Wp T false (.loop Dp) ⟨fr,hp,nx⟩ Q:=by
 intro rest;induction rest with
 |nil =>
  intro i k hd hi hk ht fr hp nx h5 h1 h9 h10 h11;have hlen:=drop_nil hd hi;simp only[gC,fb]at ht;subst ht;rw[az,aY Dp.eq_1];simp only[rM',aa,simprocAttr,h5,h1,h9,h10,h11,hlen,aP];exact hQ _ _ _ (by simp only[bH,Nat.reduceEqDiff,aJ,h5])
 |cons p r ih =>
  intro i k hd hi hk ht fr hp nx h5 h1 h9 h10 h11;obtain⟨aN,hlt,hw,dh,cW,hb⟩:=drop_cons hd hl;have Si:IntKind.i64.wrap ((k:Int)+1)=((k+1:Nat):Int):=by rw[dS] <;>omega
  rw[az,aY Dp.eq_1];by_cases qd:p.load=load
  ·by_cases qt:p.node=0
   ·simp only[rM',aa,simprocAttr,h5,h1,h9,h10,h11,hlt,aN,aK,qd,qt,hw];refine ih (i+1) k dh cW (by omega) (by simpa[gC,qt]using ht) _ _ _ ?_ ?_ ?_ ?_ ?_
    all_goals simp only[bH,Nat.reduceEqDiff,bz,aJ,h5,h1,h9,h10]
   ·simp only[rM',aa,simprocAttr,h5,h1,h9,h10,h11,hlt,aN,aK,qd,qt,hw,Si];refine ih (i+1) (k+1) dh cW (by omega) (by simp[gC,qd,qt]at ht;omega) _ _ _ ?_ ?_ ?_ ?_ ?_
    all_goals simp only[bH,Nat.reduceEqDiff,bz,aJ,h5,h1,h9,h10]
  ·simp only[rM',aa,simprocAttr,h5,h1,h9,h10,h11,hlt,aN,aK,qd,hw];refine ih (i+1) k dh cW (by omega) (by simpa[gC,qd]using ht) _ _ _ ?_ ?_ ?_ ?_ ?_
   all_goals simp only[bH,Nat.reduceEqDiff,bz,aJ,h5,h1,h9,h10]
theorem KZ(Lo:Std T 71 f71)(t:State)(load:Int)(h:t.pods.length<=2^30):ba T 71 [aw t,.int .i64 load] (.int .i64 (gC load t.pods)):=by
 refine gives Lo rfl ?_;simp only[f71,rM',aa,simprocAttr,aw];refine FM load t.pods h _ (gC load t.pods) (fun fr hp nx h5=>?_) t.pods 0 0 rfl (aO _) (ax _) (aM _) _ _ _ rfl rfl rfl rfl rfl;simp only[rM',aa,simprocAttr,h5]
theorem CM(load:Int)(t:State)(hl:t.pods.length<=2^30)(Q:Exit->St->Prop)(total:Nat)(hQ:∀fr hp nx,look fr 5=.pv (.int .i64 total)->Q (.exit 0) ⟨fr,hp,nx⟩) :
    ∀(rest:List dm) (i k:Nat),t.pods.drop i=rest->i<=t.pods.length->k<=i->k+gC load rest=total->∀(fr:List (Nat×AV)) (hp:Hl) (nx:Nat),look fr 5=.pv (.int .i64 k)->look fr 1=.pv (.int .i64 load) ->
     look fr 2=.ptr 0 0 0->ah hp 0=.var [.pv (.slice (t.pods.map aK)),.pv (.int .i64 t.pre),.pv (.int .i64 t.fe)]->look fr 6=.pv (.int .i64 i)->Wp T false (.loop ye) ⟨fr,hp,nx⟩ Q:=by
 intro rest;induction rest with
 |nil =>
  intro i k hd hi hk ht fr hp nx h5 h1 h2 b0 h6;have hlen:=drop_nil hd hi;simp only[gC,fb]at ht;subst ht;rw[az,aY ye.eq_1];simp only[rM',aa,simprocAttr,h5,h1,h2,b0,h6,hlen,aP];exact hQ _ _ _ (by simp only[bH,Nat.reduceEqDiff,aJ,h5])
 |cons p r ih =>
  intro i k hd hi hk ht fr hp nx h5 h1 h2 b0 h6;obtain⟨aN,hlt,hw,dh,cW,hb⟩:=drop_cons hd hl;have Si:IntKind.i64.wrap ((k:Int)+1)=((k+1:Nat):Int):=by rw[dS] <;>omega
  rw[az,aY ye.eq_1];by_cases qd:p.load=load
  ·by_cases qt:p.node=0
   ·simp only[rM',aa,simprocAttr,h5,h1,h2,b0,h6,hlt,aN,aK,qd,qt,hw];refine ih (i+1) k dh cW (by omega) (by simpa[gC,qt]using ht) _ _ _ ?_ ?_ ?_ b0 ?_
    all_goals simp only[bH,Nat.reduceEqDiff,bz,aJ,h5,h1,h2]
   ·simp only[rM',aa,simprocAttr,h5,h1,h2,b0,h6,hlt,aN,aK,qd,qt,hw,Si];refine ih (i+1) (k+1) dh cW (by omega) (by simp[gC,qd,qt]at ht;omega) _ _ _ ?_ ?_ ?_ b0 ?_
    all_goals simp only[bH,Nat.reduceEqDiff,bz,aJ,h5,h1,h2]
  ·simp only[rM',aa,simprocAttr,h5,h1,h2,b0,h6,hlt,aN,aK,qd,hw];refine ih (i+1) k dh cW (by omega) (by simpa[gC,qd]using ht) _ _ _ ?_ ?_ ?_ b0 ?_
   all_goals simp only[bH,Nat.reduceEqDiff,bz,aJ,h5,h1,h2]
theorem Iq(Ap:Std T 176 f176)(t:State)(load:Int)(h:t.pods.length<=2^30):ba T 176 [aw t,.int .i64 load] (.int .i64 (gC load t.pods)):=by
 refine gives Ap rfl ?_;simp only[f176,rM',aa,simprocAttr,aw];refine CM load t h _ (gC load t.pods) (fun fr hp nx h5=>?_) t.pods 0 0 rfl (aO _) (ax _) (aM _) _ _ _ rfl rfl rfl rfl rfl;simp only[rM',aa,simprocAttr,h5]
def eL(pods:List dm):Nat->List fF->Option (Int×Int)
 |_,[]=>none
 |i,l::r=>if(gC l.id pods:Int)<l.min then some (12,i)else if(gC l.id pods:Int)>l.max then some (13,i)else eL pods (i+1) r
theorem A1(s:bc)(t:State)(ht:t.pods.length<=2^30)(hl:s.aT.length<=2^30)(Lo:Std T 71 f71)(Q:Exit->St->Prop)(o:Option (Int×Int))
    (bS:o=none->∀fr hp nx,Q (.exit 0) ⟨fr,hp,nx⟩)
    (dK:∀c i,o=some (c,i)->∀fr hp nx id,look fr 4=.iface 1 (.ptr id 0 0)->ah hp id=.var [.pv (.int .i64 i),.pv (.int .i64 c)]->Q .ret ⟨fr,hp,nx⟩) :
    ∀(rest:List fF) (i:Nat),s.aT.drop i=rest->i<=s.aT.length->eL t.pods i rest=o->∀(fr:List (Nat×AV)) (hp:Hl) (nx:Nat),2<=nx ->
     look fr 3=.ptr 1 0 0->ah hp 1=.var [.pv (.slice (t.pods.map aK)),.pv (.int .i64 t.pre),.pv (.int .i64 t.fe)] ->
     look fr 9=.pv (.slice (s.aT.map bO))->look fr 10=.pv (.int .i64 s.aT.length)->look fr 11=.pv (.int .i64 i)->Wp T false (.loop Dn) ⟨fr,hp,nx⟩ Q:=by
 intro rest;induction rest with
 |nil =>
  intro i hd hi ho fr hp nx hn h3 b1 h9 h10 h11;have hlen:=drop_nil hd hi;rw[az,aY Dn.eq_1];simp only[rM',aa,simprocAttr,h3,h9,h10,h11,hlen,aP];exact bS ho.symm _ _ _
 |cons l r ih =>
  intro i hd hi ho fr hp nx hn h3 b1 h9 h10 h11;obtain⟨aN,hlt,hw,dh,cW,hb⟩:=drop_cons hd hl;have n1:¬nx=1:=by omega
  have k:=KZ Lo t l.id ht;rw[az,aY Dn.eq_1];simp only[eL]at ho;by_cases c1:(gC l.id t.pods:Int)<l.min
  ·rw[aW c1]at ho;simp only[rM',aa,simprocAttr,h3,b1,h9,h10,h11,hlt,aN,bO,n1,k.call,aw,c1];refine dK 12 i ho.symm _ _ _ (nx+1) ?_ ?_
   ·simp only[bH,Nat.reduceEqDiff,bz,aJ]
   ·simp only[aD,bz]
  ·rw[ar c1]at ho;by_cases c2:(gC l.id t.pods:Int)>l.max
   ·rw[aW c2]at ho;have pW:l.max<(gC l.id t.pods:Int):=c2;simp only[rM',aa,simprocAttr,h3,b1,h9,h10,h11,hlt,aN,bO,n1,k.call,aw,c1,pW];refine dK 13 i ho.symm _ _ _ (nx+1) ?_ ?_
    ·simp only[bH,Nat.reduceEqDiff,bz,aJ]
    ·simp only[aD,bz]
   ·rw[ar c2]at ho;have pW:¬l.max<(gC l.id t.pods:Int):=c2;simp only[rM',aa,simprocAttr,h3,b1,h9,h10,h11,hlt,aN,bO,n1,k.call,aw,c1,pW,hw];refine ih (i+1) dh cW ho _ _ _ (by omega) ?_ ?_ ?_ ?_ ?_
    all_goals simp only[bH,aD,Nat.reduceEqDiff,bz,aJ,h3,b1,h9,h10,n1]
def mj:Option (Int×Int)->PV
 |none=>.dI
 |some (c,i)=>ix i c
theorem Ez(Qd:Std T 70 f70)(Lo:Std T 71 f71)(s:bc)(t:State)(ht:t.pods.length<=2^30)(hl:s.aT.length<=2^30):ba T 70 [aF s,aw t] (mj (eL t.pods 0 s.aT)):=by
 refine gives Qd rfl ?_;simp only[f70,rM',aa,simprocAttr,aF,aw];refine A1 s t ht hl Lo _ (eL t.pods 0 s.aT) (fun ho fr hp nx=>?_) (fun c i ho fr hp nx id h4 hb=>?_) s.aT 0 rfl (aO _) rfl _ _ _ (ax _) rfl rfl rfl rfl rfl
 ·simp only[rM',aa,simprocAttr,ho,mj]
 ·simp only[rM',aa,simprocAttr,ho,mj,h4,hb,ix]
def jO:Option (Int×Int)->PV
 |none=>.tuple [.int .i64 0,.int .i64 (-1)]
 |some (c,i)=>.tuple [.int .i64 c,.int .i64 i]
theorem xQ(s:bc)(t:State)(ht:t.pods.length<=2^30)(hl:s.aT.length<=2^30)(Ap:Std T 176 f176)(Q:Exit->St->Prop)(o:Option (Int×Int))
    (bS:o=none->∀fr hp nx,Q (.exit 0) ⟨fr,hp,nx⟩)
    (dK:∀c i,o=some (c,i)->∀fr hp nx,look fr 4=.pv (.int .i64 c)->look fr 5=.pv (.int .i64 i)->Q .ret ⟨fr,hp,nx⟩) :
    ∀(rest:List fF) (i:Nat),s.aT.drop i=rest->i<=s.aT.length->eL t.pods i rest=o->∀(fr:List (Nat×AV)) (hp:Hl) (nx:Nat),
     look fr 2=.ptr 0 0 0->ah hp 0=.var [.pv (.slice (s.nodes.map bC)),.pv (.slice (s.aT.map bO)),.pv (.slice (s.pods.map aK))] ->
     look fr 3=.ptr 1 0 0->ah hp 1=.var [.pv (.slice (t.pods.map aK)),.pv (.int .i64 t.pre),.pv (.int .i64 t.fe)] ->
     look fr 6=.pv (.int .i64 i)->Wp T false (.loop yd) ⟨fr,hp,nx⟩ Q:=by
 intro rest;induction rest with
 |nil =>
  intro i hd hi ho fr hp nx h2 b0 h3 b1 h6;have hlen:=drop_nil hd hi;rw[az,aY yd.eq_1];simp only[rM',aa,simprocAttr,h2,h3,b0,h6,hlen,aP];exact bS ho.symm _ _ _
 |cons l r ih =>
  intro i hd hi ho fr hp nx h2 b0 h3 b1 h6;obtain⟨aN,hlt,hw,dh,cW,hb⟩:=drop_cons hd hl;have k:=Iq Ap t l.id ht;rw[az,aY yd.eq_1];simp only[eL]at ho;simp only[rM',aa,simprocAttr,h2,h3,b0,h6,hlt];refine(ef rfl).2 ?_;by_cases c1:(gC l.id t.pods:Int)<l.min
  ·rw[aW c1]at ho;simp only[rM',aa,simprocAttr,h2,h3,b0,b1,h6,aN,bO,k.cm,aw,c1];refine dK 12 i ho.symm _ _ _ ?_ ?_
   all_goals simp only[bH,Nat.reduceEqDiff,bz,aJ]
  ·rw[ar c1]at ho;by_cases c2:(gC l.id t.pods:Int)>l.max
   ·rw[aW c2]at ho;have pW:l.max<(gC l.id t.pods:Int):=c2;simp only[rM',aa,simprocAttr,h2,h3,b0,b1,h6,aN,bO,k.cm,aw,c1,pW];refine dK 13 i ho.symm _ _ _ ?_ ?_
    all_goals simp only[bH,Nat.reduceEqDiff,bz,aJ]
   ·rw[ar c2]at ho;have pW:¬l.max<(gC l.id t.pods:Int):=c2;simp only[rM',aa,simprocAttr,h2,h3,b0,b1,h6,aN,bO,k.cm,aw,c1,pW,hw];refine ih (i+1) dh cW ho _ _ _ ?_ b0 ?_ b1 ?_
    all_goals simp only[bH,Nat.reduceEqDiff,bz,aJ,h2,h3]
theorem BP(JS:Std T 173 f173)(Ap:Std T 176 f176)(s:bc)(t:State)(ht:t.pods.length<=2^30)(hl:s.aT.length<=2^30):ba T 173 [aF s,aw t] (jO (eL t.pods 0 s.aT)):=by
 refine gives JS rfl ?_;simp only[f173,rM',aa,simprocAttr,aF,aw];refine xQ s t ht hl Ap _ (eL t.pods 0 s.aT) (fun ho fr hp nx=>?_) (fun c i ho fr hp nx h4 h5=>?_) s.aT 0 rfl (aO _) rfl _ _ _ rfl rfl rfl rfl rfl
 ·simp only[rM',aa,simprocAttr,ho,jO]
 ·simp only[rM',aa,simprocAttr,ho,jO,h4,h5]
def nO(x:Spec)(t:State):Bool:=decide (t.pre>x.pre)||decide (t.fe>x.fe)
theorem IB(Qe:Std T 72 f72)(x:Spec)(t:State):ba T 72 [bg x,aw t] (cond (nO x t) (ct 15) .dI):=by
 refine gives Qe rfl ?_;unfold nO;by_cases c1:x.pre<t.pre <;>by_cases c2:x.fe<t.fe <;>
  simp only[f72,rM',aa,simprocAttr,bg,aw,c1,c2,ct,sX,Bool.or_true,Bool.or_false,Bool.false_or]
theorem FW(JW:Std T 179 f179)(x:Spec)(t:State):ba T 179 [bg x,aw t] (.bool (nO x t)):=by
 refine gives JW rfl ?_;unfold nO;by_cases c1:x.pre<t.pre <;>by_cases c2:x.fe<t.fe <;>
  simp only[f179,rM',aa,simprocAttr,bg,aw,c1,c2,sX,Bool.or_true,Bool.or_false,Bool.false_or]
/-! ### The TG own Qj -/
def GB:Option (Int×Int)->Int
 |none=>0
 |some (c,_)=>c
def O1:Option (Int×Int)->Int
 |none=> -1
 |some (_,i)=>i
end
end
section
/-! ### Plain:all counts together -/
section
variable{T:cK}
end
end
def Dl:bx :=
(.seq (.ops [
dX 23 .lss 22 21 []])
(.seq (.cond (.t 23)
.skip
(.exit 2))
(.seq (.block 3
(.seq (.ops [
fw 24 8 20 22 [],
ck 25 8 24 [0],
aR 8 (.alloc [.pv (.int .i64 0),.pv (.int .i64 0),.pv (.int .i64 0),.pv (.int .u64 0),.pv (.int .u64 0),.pv (.int .u64 0),.pv (.int .u64 0),.pv (.int .i64 0)]) [],
dk 8 8 25 [2,1,0,1,2]])
(.seq (.ops [
ck 26 3 2 [],
ck 27 8 6 [],
ck 28 8 8 [],
aR 29 (.call 69 [.t 26,.t 27,.t 28]) [0,1,2]])
(.cond (.t 29)
(.seq (.ops [
aq 30 5 [],
aR 31 (.build [.pv (.int .i64 0),.pv (.int .i64 0)] [(0,1,(.t 30)),(1,1,(.c (.pv (.int .i64 10))))]) [0],
df 32 31 [1],
aR 33 (.lr 1 (.t 32)) [2],
aq 4 33 [3,0,1,2,3]])
.ret)
.skip))))
(.ops [
cM 34 .add 22 1 [],
aq 22 34 [0]]))))
def Dm:bx :=
(.seq (.ops [
dX 13 .lss 12 11 []])
(.seq (.cond (.t 13)
.skip
(.exit 0))
(.seq (.block 1
(.seq (.ops [
aq 14 12 [],
fw 15 8 10 12 [],
ck 16 8 15 [1],
aR 6 (.alloc [.pv (.int .i64 0),.pv (.int .i64 0),.pv (.int .i64 0),.pv (.int .u64 0),.pv (.int .u64 0),.pv (.int .u64 0),.pv (.int .u64 0),.pv (.int .i64 0)]) [],
aq 5 14 [0,0,1,2,3],
dk 8 6 16 [3,2,4,0,1,2,3,4]])
(.seq (.ops [
bQ 17 0 3 [],
bR 18 1 17 [0],
aq 19 5 [],
aR 20 (.slice 8 (.t 18) none (some (.t 19))) [1,2],
fT 21 20 [3],
cR 22 0 []])
(.block 2
(.loop Dl)))))
(.ops [
cM 35 .add 12 1 [],
aq 12 35 [0]]))))
def f68:bf:=⟨36,[.t 4],
(.seq (.ops [
df 2 0 [],
df 3 1 [],
jo 4 []])
(.seq (.seq (.ops [
bQ 9 0 3 [],
bR 10 1 9 [0],
fT 11 10 [1],
cR 12 0 []])
(.block 0
(.loop Dm)))
(.seq (.ops [
jo 4 []])
.ret)))⟩
def f69:bf:=⟨40,[.t 6],
(.seq (.ops [
df 3 0 [],
df 4 1 [],
df 5 2 [],
fV 6 false []])
(.seq (.ops [
ck 10 3 3 [],
bQ 11 1 4 [],
bR 12 1 11 [1],
aR 13 (.call 81 [.t 10,.t 12]) [0,2],
aq 9 13 [3],
fu 14 9 0 [4],
fu 15 9 1 [4],
aR 7 (.alloc [.pv (.int .i64 0),.pv (.bool false),.pv (.int .i64 0),.pv (.int .i64 0),.pv (.int .i64 0)]) [],
dk 5 7 14 [7,5,3,0,1,2,3,4,5,7],
aq 8 15 [6,8,0,1,2,3,4,5,6,7,8]])
(.seq (.ops [
bQ 16 1 4 [],
bR 17 1 16 [0],
bQ 18 1 5 [],
bR 19 1 18 [2],
dX 20 .eql 17 19 [1,3],
aq 21 20 [4],
ew 22 21 true 7 4 [5],
ec 23 21 true 1 22 [6,5],
ew 24 21 true 7 5 [5],
ec 25 21 true 1 24 [8,5],
ej 26 21 true (.bin .eql none (.t 23) (.t 25)) [7,9,5],
iZ 27 21 26 [5,10],
aq 28 27 [11,5],
ew 29 28 true 7 4 [12],
ec 30 28 true 1 29 [13,12],
gD 31 28 true .neq 30 0 [14,12],
iZ 32 28 31 [12,15],
aq 33 32 [16,12],
fa 34 33 true 8 [17],
iZ 35 33 34 [17,18],
aq 36 35 [19,17],
ew 37 36 true 1 7 [20],
ec 38 36 true 1 37 [21,20],
iZ 39 36 38 [20,22],
aq 6 39 [23,20,0,1,2,3,4,5,6,7,8,9,10,11,12,13,14,15,16,17,18,19,20,21,22,23]])
.ret)))⟩
def Du:bx :=
(.seq (.ops [
dX 12 .lss 11 10 []])
(.seq (.cond (.t 12)
.skip
(.exit 0))
(.seq (.block 1
(.seq (.ops [
fw 13 5 9 11 [],
ck 14 5 13 [0],
aR 7 (.alloc [.pv (.int .i64 0),.pv (.bool false),.pv (.int .i64 0),.pv (.int .i64 0),.pv (.int .i64 0)]) [],
dk 5 7 14 [2,1,0,1,2]])
(.seq (.ops [
bQ 15 0 7 [],
bR 16 1 15 [0],
aq 17 1 [],
dX 18 .eql 16 17 [1,2]])
(.cond (.t 18)
(.seq (.ops [
ck 19 5 7 [],
dk 5 4 19 [0,0],
fV 5 true [1,0,1]])
.ret)
.skip))))
(.ops [
cM 20 .add 11 1 [],
aq 11 20 [0]]))))
def f81:bf:=⟨22,[.cell 4 true 5,.t 5],
(.seq (.ops [
df 2 0 [],
aR 4 (.alloc [.pv (.int .i64 0),.pv (.bool false),.pv (.int .i64 0),.pv (.int .i64 0),.pv (.int .i64 0)]) [],
fV 5 false []])
(.seq (.seq (.ops [
bQ 8 1 2 [],
bR 9 1 8 [0],
fT 10 9 [1],
cR 11 0 []])
(.block 0
(.loop Du)))
(.seq (.ops [
aR 21 (.build [.pv (.int .i64 0),.pv (.bool false),.pv (.int .i64 0),.pv (.int .i64 0),.pv (.int .i64 0)] []) [],
dk 5 4 21 [0,0],
fV 5 false [1,0,1]])
.ret)))⟩
def rP:bx :=
(.seq (.seq (.ops [
aq 10 7 [],
cM 11 .lss 10 4 [0]])
(.cond (.t 11)
.skip
(.exit 0)))
(.seq (.block 1
(.seq (.draw [
aq 15 7 [],
aR 16 (.dA 4 1 (.t 2) (.t 15)) [0],
bR 17 1 16 [1],
aq 18 7 [],
aR 19 (.dA 4 1 (.t 3) (.t 18)) [3],
bR 20 1 19 [4],
aR 21 (.call 145 [.t 17,.t 20]) [2,5],
aq 14 21 [6],
fu 22 14 0 [7],
fu 23 14 1 [7],
aq 8 22 [8,6,0,1,2,3,4,5,6,7,8],
aq 9 23 [9,10,0,1,2,3,4,5,6,7,8,9,10]])
(.seq (.seq (.ops [
aq 24 9 [],
aR 25 (.not (.t 24)) [0]])
(.cond (.t 25)
(.seq (.ops [
aR 26 (.build [.pv (.int .u64 0),.pv (.int .u64 0),.pv (.int .u64 0),.pv (.int .u64 0)] []) [],
dk 4 4 26 [0,0],
fV 5 false [1,0,1]])
.ret)
.skip))
(.ops [
aq 27 7 [],
aq 28 8 [],
aR 29 (.dA 4 1 (.t 6) (.t 27)) [0,0,1],
dk 1 29 28 [2,1,0,1]]))))
(.ops [
aq 12 7 [],
cM 13 .add 12 1 [0],
aq 7 13 [1,0,1]])))
def f140:bf:=⟨31,[.cell 4 true 4,.t 5],
(.seq (.ops [
df 2 0 [],
df 3 1 [],
aR 4 (.alloc [.pv (.int .u64 0),.pv (.int .u64 0),.pv (.int .u64 0),.pv (.int .u64 0)]) [],
fV 5 false []])
(.seq (.ops [
aR 6 (.alloc [.pv (.int .u64 0),.pv (.int .u64 0),.pv (.int .u64 0),.pv (.int .u64 0)]) []])
(.seq (.seq (.ops [
cR 7 0 []])
(.block 0
(.loop rP)))
(.seq (.ops [
ck 30 4 6 [],
dk 4 4 30 [0,0],
fV 5 true [1,0,1]])
.ret))))⟩
def f141:bf:=⟨31,[.t 4],
(.seq (.ops [
df 2 0 [],
df 3 1 [],
fV 4 false []])
(.seq (.ops [
aR 5 (.dA 4 1 (.t 2) (.c (.pv (.int .i64 0)))) [],
bR 6 1 5 [0],
aR 7 (.dA 4 1 (.t 3) (.c (.pv (.int .i64 0)))) [],
bR 8 1 7 [2],
dX 9 .leq 6 8 [1,3],
aq 10 9 [4],
ej 11 10 true (.dA 4 1 (.t 2) (.c (.pv (.int .i64 1)))) [5],
ec 12 10 true 1 11 [6,5],
ej 13 10 true (.dA 4 1 (.t 3) (.c (.pv (.int .i64 1)))) [5],
ec 14 10 true 1 13 [8,5],
ej 15 10 true (.bin .leq none (.t 12) (.t 14)) [7,9,5],
iZ 16 10 15 [5,10],
aq 17 16 [11,5],
ej 18 17 true (.dA 4 1 (.t 2) (.c (.pv (.int .i64 2)))) [12],
ec 19 17 true 1 18 [13,12],
ej 20 17 true (.dA 4 1 (.t 3) (.c (.pv (.int .i64 2)))) [12],
ec 21 17 true 1 20 [15,12],
ej 22 17 true (.bin .leq none (.t 19) (.t 21)) [14,16,12],
iZ 23 17 22 [12,17],
aq 24 23 [18,12],
ej 25 24 true (.dA 4 1 (.t 2) (.c (.pv (.int .i64 3)))) [19],
ec 26 24 true 1 25 [20,19],
ej 27 24 true (.dA 4 1 (.t 3) (.c (.pv (.int .i64 3)))) [19],
ec 28 24 true 1 27 [22,19],
ej 29 24 true (.bin .leq none (.t 26) (.t 28)) [21,23,19],
iZ 30 24 29 [19,24],
aq 4 30 [25,19,0,1,2,3,4,5,6,7,8,9,10,11,12,13,14,15,16,17,18,19,20,21,22,23,24,25]])
.ret))⟩
def f142:bf:=⟨34,[.cell 4 true 4,.t 5],
(.seq (.ops [
df 2 0 [],
df 3 1 [],
aR 4 (.alloc [.pv (.int .u64 0),.pv (.int .u64 0),.pv (.int .u64 0),.pv (.int .u64 0)]) [],
fV 5 false []])
(.seq (.ops [
ck 7 4 3 [],
ck 8 4 2 [],
aR 9 (.call 141 [.t 7,.t 8]) [0,1],
aq 6 9 [2,2,0,1,2]])
(.seq (.seq (.ops [
aq 10 6 [],
aR 11 (.not (.t 10)) [0]])
(.cond (.t 11)
(.seq (.ops [
aR 12 (.build [.pv (.int .u64 0),.pv (.int .u64 0),.pv (.int .u64 0),.pv (.int .u64 0)] []) [],
dk 4 4 12 [0,0],
fV 5 false [1,0,1]])
.ret)
.skip))
(.seq (.ops [
aR 13 (.dA 4 1 (.t 2) (.c (.pv (.int .i64 0)))) [],
bR 14 1 13 [0],
aR 15 (.dA 4 1 (.t 3) (.c (.pv (.int .i64 0)))) [],
bR 16 1 15 [2],
dX 17 .sub 14 16 [1,3],
aR 18 (.dA 4 1 (.t 2) (.c (.pv (.int .i64 1)))) [],
bR 19 1 18 [5],
aR 20 (.dA 4 1 (.t 3) (.c (.pv (.int .i64 1)))) [],
bR 21 1 20 [7],
dX 22 .sub 19 21 [6,8],
aR 23 (.dA 4 1 (.t 2) (.c (.pv (.int .i64 2)))) [],
bR 24 1 23 [10],
aR 25 (.dA 4 1 (.t 3) (.c (.pv (.int .i64 2)))) [],
bR 26 1 25 [12],
dX 27 .sub 24 26 [11,13],
aR 28 (.dA 4 1 (.t 2) (.c (.pv (.int .i64 3)))) [],
bR 29 1 28 [15],
aR 30 (.dA 4 1 (.t 3) (.c (.pv (.int .i64 3)))) [],
bR 31 1 30 [17],
dX 32 .sub 29 31 [16,18],
aR 33 (.build [.pv (.int .u64 0),.pv (.int .u64 0),.pv (.int .u64 0),.pv (.int .u64 0)] [(0,1,(.t 17)),(1,1,(.t 22)),(2,1,(.t 27)),(3,1,(.t 32))]) [4,9,14,19],
dk 4 4 33 [20,0,1,2,3,4,5,6,7,8,9,10,11,12,13,14,15,16,17,18,19,20],
fV 5 true [21,0,1,2,3,4,5,6,7,8,9,10,11,12,13,14,15,16,17,18,19,20,21]])
.ret))))⟩
def um:bx :=
(.seq (.seq (.ops [
aq 7 6 [],
aq 8 0 [],
fT 9 8 [1],
dX 10 .lss 7 9 [0,2],
aq 11 10 [3],
fa 12 11 true 5 [4],
iZ 13 11 12 [4,5]])
(.cond (.t 13)
.skip
(.exit 0)))
(.seq (.block 1
(.draw [
ck 17 4 4 [],
aq 18 0 [],
aq 19 6 [],
fw 20 4 18 19 [1,2],
ck 21 4 20 [3],
aR 22 (.call 140 [.t 17,.t 21]) [0,4],
aq 16 22 [5],
fu 23 16 0 [6],
fu 24 16 1 [6],
dk 4 4 23 [7,5,0,1,2,3,4,5,6,7],
aq 5 24 [8,9,0,1,2,3,4,5,6,7,8,9]]))
(.ops [
aq 14 6 [],
cM 15 .add 14 1 [0],
aq 6 15 [1,0,1]])))
def f143:bf:=⟨27,[.cell 2 true 4,.t 3],
(.seq (.ops [
aR 2 (.alloc [.pv (.int .u64 0),.pv (.int .u64 0),.pv (.int .u64 0),.pv (.int .u64 0)]) [],
fV 3 false []])
(.seq (.ops [
aR 4 (.alloc [.pv (.int .u64 0),.pv (.int .u64 0),.pv (.int .u64 0),.pv (.int .u64 0)]) []])
(.seq (.ops [
fV 5 true []])
(.seq (.seq (.ops [
cR 6 0 []])
(.block 0
(.loop um)))
(.seq (.ops [
ck 25 4 4 [],
aq 26 5 [],
dk 4 2 25 [0,0],
aq 3 26 [1,2,0,1,2]])
.ret)))))⟩
def f144:bf:=⟨10,[.t 4],
(.seq (.ops [
aR 4 (.mv (.c (.pv (.int .u64 0)))) []])
(.seq (.seq (.ops [
aq 5 1 []])
(.cond (.t 5)
(.seq (.ops [
aq 6 0 [],
aR 7 (.bin .quo none (.t 6) (.c (.pv (.int .u64 4294967296)))) [0],
aq 4 7 [1,0,1]])
.ret)
.skip))
(.seq (.ops [
aq 8 0 [],
aR 9 (.bin .rem none (.t 8) (.c (.pv (.int .u64 4294967296)))) [0],
aq 4 9 [1,0,1]])
.ret)))⟩
def f145:bf:=⟨28,[.t 4,.t 5],
(.seq (.ops [
aR 4 (.mv (.c (.pv (.int .u64 0)))) [],
fV 5 false [0]])
(.seq (.ops [
aq 8 0 [],
aR 9 (.call 144 [.t 8,.c (.pv (.bool false))]) [0],
aq 10 1 [],
aR 11 (.call 144 [.t 10,.c (.pv (.bool false))]) [2,1],
dX 12 .add 9 11 [1,3],
aq 6 12 [4,3,0,1,2,3,4]])
(.seq (.ops [
aq 13 0 [],
aR 14 (.call 144 [.t 13,.c (.pv (.bool true))]) [0],
aq 15 1 [],
aR 16 (.call 144 [.t 15,.c (.pv (.bool true))]) [2,1],
dX 17 .add 14 16 [1,3],
aq 18 6 [],
aR 19 (.bin .quo none (.t 18) (.c (.pv (.int .u64 4294967296)))) [5],
dX 20 .add 17 19 [4,6],
aq 7 20 [7,3,0,1,2,3,4,5,6,7]])
(.seq (.seq (.ops [
aq 21 7 [],
aR 22 (.bin .geq none (.t 21) (.c (.pv (.int .u64 4294967296)))) [0]])
(.cond (.t 22)
(.seq (.ops [
aR 4 (.mv (.c (.pv (.int .u64 0)))) [],
fV 5 false [0,0]])
.ret)
.skip))
(.seq (.ops [
aq 23 7 [],
aR 24 (.bin .mul none (.t 23) (.c (.pv (.int .u64 4294967296)))) [0],
aq 25 6 [],
aR 26 (.bin .rem none (.t 25) (.c (.pv (.int .u64 4294967296)))) [2],
dX 27 .add 24 26 [1,3],
aq 4 27 [4,0,1,2,3,4],
fV 5 true [5,0,1,2,3,4,5]])
.ret)))))⟩
def xY:bx :=
(.seq (.seq (.ops [
aq 6 5 [],
bQ 7 0 2 [],
bR 8 1 7 [1],
fT 9 8 [2],
dX 10 .lss 6 9 [0,3]])
(.cond (.t 10)
.skip
(.exit 0)))
(.seq (.block 1
(.seq (.ops [
bQ 13 0 2 [],
bR 14 1 13 [0],
aq 15 5 [],
fw 16 10 14 15 [1,2],
bQ 17 0 16 [3],
bR 18 1 17 [4],
aq 19 1 [],
dX 20 .eql 18 19 [5,6]])
(.cond (.t 20)
(.seq (.ops [
aq 21 5 [],
aq 4 21 [0,0]])
.ret)
.skip)))
(.ops [
aq 11 5 [],
cM 12 .add 11 1 [0],
aq 5 12 [1,0,1]])))
def f155:bf:=⟨22,[.t 4],
(.seq (.ops [
df 2 0 [],
cR 4 0 []])
(.seq (.seq (.ops [
cR 5 0 []])
(.block 0
(.loop xY)))
(.seq (.ops [
cR 4 (-1) []])
.ret)))⟩
def y9:bx :=
(.seq (.seq (.ops [
aq 9 6 [],
bQ 10 0 2 [],
bR 11 1 10 [1],
fT 12 11 [2],
dX 13 .lss 9 12 [0,3]])
(.cond (.t 13)
.skip
(.exit 0)))
(.seq (.block 1
(.seq (.draw [
ck 17 3 2 [],
ck 18 3 3 [],
bQ 19 0 2 [],
bR 20 1 19 [2],
aq 21 6 [],
fw 22 10 20 21 [3,4],
bQ 23 0 22 [5],
bR 24 1 23 [6],
aR 25 (.call 170 [.t 17,.t 18,.t 24]) [0,1,7],
aq 16 25 [8],
fu 26 16 0 [9],
fu 27 16 1 [9],
aR 7 (.alloc [.pv (.int .u64 0),.pv (.int .u64 0),.pv (.int .u64 0),.pv (.int .u64 0)]) [],
dk 4 7 26 [12,10,8,0,1,2,3,4,5,6,7,8,9,10,12],
aq 8 27 [11,13,0,1,2,3,4,5,6,7,8,9,10,11,12,13]])
(.seq (.ops [
aq 28 8 [],
cM 29 .neq 28 0 [0]])
(.cond (.t 29)
(.seq (.ops [
aq 30 8 [],
aq 31 6 [],
aq 4 30 [0,0],
aq 5 31 [1,2,0,1,2]])
.ret)
.skip))))
(.ops [
aq 14 6 [],
cM 15 .add 14 1 [0],
aq 6 15 [1,0,1]])))
def f169:bf:=⟨32,[.t 4,.t 5],
(.seq (.ops [
df 2 0 [],
df 3 1 [],
cR 4 0 [],
cR 5 0 [2]])
(.seq (.seq (.ops [
cR 6 0 []])
(.block 0
(.loop y9)))
(.seq (.ops [
cR 4 0 [],
cR 5 (-1) [0,0]])
.ret)))⟩
def f170:bf:=⟨59,[.cell 6 true 4,.t 7],
(.seq (.ops [
df 3 0 [],
df 4 1 [],
aR 6 (.alloc [.pv (.int .u64 0),.pv (.int .u64 0),.pv (.int .u64 0),.pv (.int .u64 0)]) [],
cR 7 0 []])
(.seq (.ops [
ck 15 3 3 [],
aq 16 2 [],
aR 17 (.call 155 [.t 15,.t 16]) [0,1],
aq 8 17 [2,2,0,1,2]])
(.seq (.seq (.ops [
aq 18 8 [],
cM 19 .lss 18 0 [0]])
(.cond (.t 19)
(.seq (.ops [
aR 20 (.build [.pv (.int .u64 0),.pv (.int .u64 0),.pv (.int .u64 0),.pv (.int .u64 0)] []) [],
dk 4 6 20 [0,0],
cR 7 4 [1,0,1]])
.ret)
.skip))
(.seq (.ops [
ck 22 3 4 [],
aq 23 2 [],
aR 24 (.call 171 [.t 22,.t 23]) [0,1],
aq 21 24 [2],
fu 25 21 0 [3],
fu 26 21 1 [3],
aR 9 (.alloc [.pv (.int .u64 0),.pv (.int .u64 0),.pv (.int .u64 0),.pv (.int .u64 0)]) [],
dk 4 9 25 [6,4,2,0,1,2,3,4,6],
aq 10 26 [5,7,0,1,2,3,4,5,6,7]])
(.seq (.seq (.ops [
aq 27 10 [],
aR 28 (.not (.t 27)) [0]])
(.cond (.t 28)
(.seq (.ops [
aR 29 (.build [.pv (.int .u64 0),.pv (.int .u64 0),.pv (.int .u64 0),.pv (.int .u64 0)] []) [],
dk 4 6 29 [0,0],
cR 7 8 [1,0,1]])
.ret)
.skip))
(.seq (.draw [
bQ 31 0 3 [],
bR 32 1 31 [0],
aq 33 8 [],
fw 34 10 32 33 [1,2],
bQ 35 2 34 [3],
ck 36 4 35 [4],
bQ 37 0 3 [],
bR 38 1 37 [6],
aq 39 8 [],
fw 40 10 38 39 [7,8],
bQ 41 6 40 [9],
ck 42 4 41 [10],
aR 43 (.call 142 [.t 36,.t 42]) [5,11],
aq 30 43 [12],
fu 44 30 0 [13],
fu 45 30 1 [13],
aR 11 (.alloc [.pv (.int .u64 0),.pv (.int .u64 0),.pv (.int .u64 0),.pv (.int .u64 0)]) [],
dk 4 11 44 [16,14,12,0,1,2,3,4,5,6,7,8,9,10,11,12,13,14,16],
aq 12 45 [15,17,0,1,2,3,4,5,6,7,8,9,10,11,12,13,14,15,16,17]])
(.seq (.seq (.ops [
aq 46 12 [],
aR 47 (.not (.t 46)) [0]])
(.cond (.t 47)
(.seq (.ops [
aR 48 (.build [.pv (.int .u64 0),.pv (.int .u64 0),.pv (.int .u64 0),.pv (.int .u64 0)] []) [],
dk 4 6 48 [0,0],
cR 7 9 [1,0,1]])
.ret)
.skip))
(.seq (.ops [
ck 50 4 11 [],
ck 51 4 9 [],
aR 52 (.call 142 [.t 50,.t 51]) [0,1],
aq 49 52 [2],
fu 53 49 0 [3],
fu 54 49 1 [3],
aR 13 (.alloc [.pv (.int .u64 0),.pv (.int .u64 0),.pv (.int .u64 0),.pv (.int .u64 0)]) [],
dk 4 13 53 [6,4,2,0,1,2,3,4,6],
aq 14 54 [5,7,0,1,2,3,4,5,6,7]])
(.seq (.seq (.ops [
aq 55 14 [],
aR 56 (.not (.t 55)) [0]])
(.cond (.t 56)
(.seq (.ops [
aR 57 (.build [.pv (.int .u64 0),.pv (.int .u64 0),.pv (.int .u64 0),.pv (.int .u64 0)] []) [],
dk 4 6 57 [0,0],
cR 7 9 [1,0,1]])
.ret)
.skip))
(.seq (.ops [
ck 58 4 13 [],
dk 4 6 58 [0,0],
cR 7 0 [1,0,1]])
.ret))))))))))⟩
def ya:bx :=
(.seq (.seq (.ops [
aq 10 7 [],
bQ 11 0 2 [],
bR 12 1 11 [1],
fT 13 12 [2],
dX 14 .lss 10 13 [0,3]])
(.cond (.t 14)
.skip
(.exit 0)))
(.seq (.block 1
(.seq (.ops [
bQ 17 0 2 [],
bR 18 1 17 [0],
aq 19 7 [],
fw 20 8 18 19 [1,2],
bQ 21 7 20 [3],
bR 22 1 21 [4],
aq 23 1 [],
dX 24 .eql 22 23 [5,6]])
(.cond (.t 24)
(.ops [
aq 25 6 [],
bQ 26 0 2 [],
bR 27 1 26 [1],
aq 28 7 [],
fw 29 8 27 28 [2,3],
bQ 30 3 29 [4],
ck 31 4 30 [5],
aR 32 (.cr 4 1 [.pv (.int .u64 0),.pv (.int .u64 0),.pv (.int .u64 0),.pv (.int .u64 0)] [(0,4,(.t 31))]) [6],
aR 33 (.append 4 32 (.t 25) (.t 32)) [0,7],
aq 6 33 [8,8,0,1,2,3,4,5,6,7,8]])
.skip)))
(.ops [
aq 15 7 [],
cM 16 .add 15 1 [0],
aq 7 16 [1,0,1]])))
def f171:bf:=⟨43,[.cell 4 true 4,.t 5],
(.seq (.ops [
df 2 0 [],
aR 4 (.alloc [.pv (.int .u64 0),.pv (.int .u64 0),.pv (.int .u64 0),.pv (.int .u64 0)]) [],
fV 5 false []])
(.seq (.ops [
aR 6 (.mv (.c .bu)) []])
(.seq (.seq (.ops [
cR 7 0 []])
(.block 0
(.loop ya)))
(.seq (.ops [
aq 35 6 [],
aR 36 (.call 143 [.t 35]) [0],
aq 34 36 [1],
fu 37 34 0 [2],
fu 38 34 1 [2],
aR 8 (.alloc [.pv (.int .u64 0),.pv (.int .u64 0),.pv (.int .u64 0),.pv (.int .u64 0)]) [],
dk 4 8 37 [5,3,1,0,1,2,3,5],
aq 9 38 [4,6,0,1,2,3,4,5,6]])
(.seq (.seq (.ops [
aq 39 9 [],
aR 40 (.not (.t 39)) [0]])
(.cond (.t 40)
(.seq (.ops [
aR 41 (.build [.pv (.int .u64 0),.pv (.int .u64 0),.pv (.int .u64 0),.pv (.int .u64 0)] []) [],
dk 4 4 41 [0,0],
fV 5 false [1,0,1]])
.ret)
.skip))
(.seq (.ops [
ck 42 4 8 [],
dk 4 4 42 [0,0],
fV 5 true [1,0,1]])
.ret))))))⟩
def yD:bx :=
(.seq (.ops [
dX 14 .lss 13 12 []])
(.seq (.cond (.t 14)
.skip
(.exit 0))
(.seq (.block 1
(.seq (.ops [
aq 15 13 [],
fw 16 10 11 13 [],
ck 17 10 16 [1],
aR 6 (.alloc [.pv (.int .i64 0),.pv (.int .i64 0),.pv (.int .u64 0),.pv (.int .u64 0),.pv (.int .u64 0),.pv (.int .u64 0),.pv (.int .u64 0),.pv (.int .u64 0),.pv (.int .u64 0),.pv (.int .u64 0)]) [],
aq 5 15 [0,0,1,2,3],
dk 10 6 17 [3,2,4,0,1,2,3,4]])
(.seq (.ops [
ck 19 3 2 [],
ck 20 3 3 [],
bQ 21 0 6 [],
bR 22 1 21 [2],
aR 23 (.call 220 [.t 19,.t 20,.t 22]) [0,1,3],
aq 18 23 [4],
fu 24 18 0 [5],
fu 25 18 1 [5],
aR 7 (.alloc [.pv (.int .u64 0),.pv (.int .u64 0),.pv (.int .u64 0),.pv (.int .u64 0)]) [],
dk 4 7 24 [8,6,4,0,1,2,3,4,5,6,8],
aq 8 25 [7,9,0,1,2,3,4,5,6,7,8,9]])
(.seq (.ops [
aR 9 (.alloc [.pv (.int .i64 0)]) []])
(.seq (.ops [
aq 26 8 [],
aR 27 (.lr 3 (.t 9)) [],
aR 28 (.call 266 [.t 26,.t 27]) [0,1]])
(.cond (.t 28)
(.seq (.ops [
aq 29 5 [],
bR 30 1 9 [],
aR 31 (.build [.pv (.int .i64 0),.pv (.int .i64 0)] [(0,1,(.t 29)),(1,1,(.t 30))]) [0,1],
df 32 31 [2],
aR 33 (.lr 1 (.t 32)) [3],
aq 4 33 [4,0,1,2,3,4]])
.ret)
.skip))))))
(.ops [
cM 34 .add 13 1 [],
aq 13 34 [0]]))))
def f219:bf:=⟨35,[.t 4],
(.seq (.ops [
df 2 0 [],
df 3 1 [],
jo 4 []])
(.seq (.seq (.ops [
bQ 10 0 2 [],
bR 11 1 10 [0],
fT 12 11 [1],
cR 13 0 []])
(.block 0
(.loop yD)))
(.seq (.ops [
jo 4 []])
.ret)))⟩
def f220:bf:=⟨54,[.cell 6 true 4,.t 7],
(.seq (.ops [
df 3 0 [],
df 4 1 [],
aR 6 (.alloc [.pv (.int .u64 0),.pv (.int .u64 0),.pv (.int .u64 0),.pv (.int .u64 0)]) [],
jo 7 []])
(.seq (.ops [
ck 14 3 3 [],
aq 15 2 [],
aR 16 (.call 82 [.t 14,.t 15]) [0,1],
aq 13 16 [2],
fu 17 13 0 [3],
fu 18 13 1 [3],
aR 8 (.alloc [.pv (.int .i64 0),.pv (.int .i64 0),.pv (.int .u64 0),.pv (.int .u64 0),.pv (.int .u64 0),.pv (.int .u64 0),.pv (.int .u64 0),.pv (.int .u64 0),.pv (.int .u64 0),.pv (.int .u64 0)]) [],
dk 10 8 17 [6,4,2,0,1,2,3,4,6],
aq 9 18 [5,7,0,1,2,3,4,5,6,7]])
(.seq (.seq (.ops [
aq 19 9 [],
aR 20 (.not (.t 19)) [0]])
(.cond (.t 20)
(.seq (.ops [
aR 21 (.build [.pv (.int .u64 0),.pv (.int .u64 0),.pv (.int .u64 0),.pv (.int .u64 0)] []) [],
aR 22 (.lr 0 (.c (.pv (.int .i64 4)))) [],
dk 4 6 21 [0,0],
aq 7 22 [1,2,0,1,2]])
.ret)
.skip))
(.seq (.ops [
ck 24 3 4 [],
aq 25 2 [],
aR 26 (.call 221 [.t 24,.t 25]) [0,1],
aq 23 26 [2],
fu 27 23 0 [3],
fu 28 23 1 [3],
aR 10 (.alloc [.pv (.int .u64 0),.pv (.int .u64 0),.pv (.int .u64 0),.pv (.int .u64 0)]) [],
dk 4 10 27 [6,4,2,0,1,2,3,4,6],
aq 11 28 [5,7,0,1,2,3,4,5,6,7]])
(.seq (.seq (.ops [
aq 29 11 [],
aR 30 (.bin .neq (some (.iface true)) (.t 29) (.c (.pv .dI))) [0]])
(.cond (.t 30)
(.seq (.ops [
aR 31 (.build [.pv (.int .u64 0),.pv (.int .u64 0),.pv (.int .u64 0),.pv (.int .u64 0)] []) [],
aq 32 11 [],
dk 4 6 31 [0,0],
aq 7 32 [1,2,0,1,2]])
.ret)
.skip))
(.seq (.ops [
bQ 34 2 8 [],
ck 35 4 34 [0],
bQ 36 6 8 [],
ck 37 4 36 [2],
aR 38 (.call 258 [.t 35,.t 37]) [1,3],
aq 33 38 [4],
fu 39 33 0 [5],
fu 40 33 1 [5],
aR 12 (.alloc [.pv (.int .u64 0),.pv (.int .u64 0),.pv (.int .u64 0),.pv (.int .u64 0)]) [],
dk 4 12 39 [8,6,4,0,1,2,3,4,5,6,8],
aq 11 40 [7,9,0,1,2,3,4,5,6,7,8,9]])
(.seq (.seq (.ops [
aq 41 11 [],
aR 42 (.bin .eql (some (.iface true)) (.t 41) (.c (.pv .dI))) [0]])
(.cond (.t 42)
(.ops [
ck 44 4 12 [],
ck 45 4 10 [],
aR 46 (.call 258 [.t 44,.t 45]) [0,1],
aq 43 46 [2],
fu 47 43 0 [3],
fu 48 43 1 [3],
dk 4 12 47 [4,2,0,1,2,3,4],
aq 11 48 [5,6,0,1,2,3,4,5,6]])
.skip))
(.seq (.seq (.ops [
aq 49 11 [],
aR 50 (.bin .neq (some (.iface true)) (.t 49) (.c (.pv .dI))) [0]])
(.cond (.t 50)
(.seq (.ops [
aR 51 (.build [.pv (.int .u64 0),.pv (.int .u64 0),.pv (.int .u64 0),.pv (.int .u64 0)] []) [],
aR 52 (.lr 0 (.c (.pv (.int .i64 9)))) [],
dk 4 6 51 [0,0],
aq 7 52 [1,2,0,1,2]])
.ret)
.skip))
(.seq (.ops [
ck 53 4 12 [],
dk 4 6 53 [0,0],
jo 7 [1,0,1]])
.ret)))))))))⟩
def yE:bx :=
(.seq (.ops [
dX 13 .lss 12 11 []])
(.seq (.cond (.t 13)
.skip
(.exit 0))
(.seq (.block 1
(.seq (.ops [
fw 14 8 10 12 [],
ck 15 8 14 [0],
aR 8 (.alloc [.pv (.int .i64 0),.pv (.int .i64 0),.pv (.int .i64 0),.pv (.int .u64 0),.pv (.int .u64 0),.pv (.int .u64 0),.pv (.int .u64 0),.pv (.int .i64 0)]) [],
dk 8 8 15 [2,1,0,1,2]])
(.seq (.ops [
bQ 16 7 8 [],
bR 17 1 16 [0],
aq 18 1 [],
dX 19 .eql 17 18 [1,2]])
(.cond (.t 19)
(.ops [
aq 20 6 [],
bQ 21 3 8 [],
ck 22 4 21 [1],
aR 23 (.cr 4 1 [.pv (.int .u64 0),.pv (.int .u64 0),.pv (.int .u64 0),.pv (.int .u64 0)] [(0,4,(.t 22))]) [2],
aR 24 (.append 4 32 (.t 20) (.t 23)) [0,3],
aq 6 24 [4,4,0,1,2,3,4]])
.skip))))
(.ops [
cM 25 .add 12 1 [],
aq 12 25 [0]]))))
def f221:bf:=⟨30,[.cell 4 true 4,.t 5],
(.seq (.ops [
df 2 0 [],
aR 4 (.alloc [.pv (.int .u64 0),.pv (.int .u64 0),.pv (.int .u64 0),.pv (.int .u64 0)]) [],
jo 5 []])
(.seq (.ops [
aR 6 (.mv (.c .bu)) []])
(.seq (.seq (.ops [
bQ 9 0 2 [],
bR 10 1 9 [0],
fT 11 10 [1],
cR 12 0 []])
(.block 0
(.loop yE)))
(.seq (.ops [
aq 26 6 [],
aR 27 (.call 260 [.t 26]) [0],
fu 28 27 0 [1],
fu 29 27 1 [1],
dk 4 4 28 [2,1,0,1,2,3],
aq 5 29 [3,4,0,1,2,3,4]])
.ret))))⟩
def f255:bf:=⟨11,[.cell 4 true 4,.t 5],
(.seq (.ops [
df 2 0 [],
df 3 1 [],
aR 4 (.alloc [.pv (.int .u64 0),.pv (.int .u64 0),.pv (.int .u64 0),.pv (.int .u64 0)]) [],
jo 5 []])
(.seq (.ops [
ck 6 4 2 [],
ck 7 4 3 [],
aR 8 (.call 261 [.t 6,.t 7,.f 256]) [0,1],
fu 9 8 0 [2],
fu 10 8 1 [2],
dk 4 4 9 [3,2,0,1,2,3,4],
aq 5 10 [4,5,0,1,2,3,4,5]])
.ret))⟩
def f258:bf:=⟨11,[.cell 4 true 4,.t 5],
(.seq (.ops [
df 2 0 [],
df 3 1 [],
aR 4 (.alloc [.pv (.int .u64 0),.pv (.int .u64 0),.pv (.int .u64 0),.pv (.int .u64 0)]) [],
jo 5 []])
(.seq (.ops [
ck 6 4 2 [],
ck 7 4 3 [],
aR 8 (.call 261 [.t 6,.t 7,.f 259]) [0,1],
fu 9 8 0 [2],
fu 10 8 1 [2],
dk 4 4 9 [3,2,0,1,2,3,4],
aq 5 10 [4,5,0,1,2,3,4,5]])
.ret))⟩
def f259:bf:=⟨12,[.t 4,.t 5],
(.seq (.ops [
aR 4 (.mv (.c (.pv (.int .u64 0)))) [],
fV 5 false [0]])
(.seq (.ops [
aq 6 0 [],
aq 7 1 [],
dX 8 .sub 6 7 [0,1],
aq 9 0 [],
aq 10 1 [],
dX 11 .geq 9 10 [3,4],
aq 4 8 [2,0,1,2],
aq 5 11 [5,6,0,1,2,3,4,5,6]])
.ret))⟩
def yH:bx :=
(.seq (.ops [
dX 12 .lss 11 10 []])
(.seq (.cond (.t 12)
.skip
(.exit 0))
(.seq (.block 1
(.seq (.ops [
fw 13 4 9 11 [],
ck 14 4 13 [0],
aR 6 (.alloc [.pv (.int .u64 0),.pv (.int .u64 0),.pv (.int .u64 0),.pv (.int .u64 0)]) [],
dk 4 6 14 [2,1,0,1,2]])
(.seq (.ops [
ck 16 4 4 [],
ck 17 4 6 [],
aR 18 (.call 255 [.t 16,.t 17]) [0,1],
aq 15 18 [2],
fu 19 15 0 [3],
fu 20 15 1 [3],
aR 7 (.alloc [.pv (.int .u64 0),.pv (.int .u64 0),.pv (.int .u64 0),.pv (.int .u64 0)]) [],
dk 4 7 19 [6,4,2,0,1,2,3,4,6],
aq 8 20 [5,7,0,1,2,3,4,5,6,7]])
(.seq (.seq (.ops [
aq 21 8 [],
aR 22 (.bin .neq (some (.iface true)) (.t 21) (.c (.pv .dI))) [0]])
(.cond (.t 22)
(.seq (.ops [
aR 23 (.build [.pv (.int .u64 0),.pv (.int .u64 0),.pv (.int .u64 0),.pv (.int .u64 0)] []) [],
aq 24 8 [],
dk 4 2 23 [0,0],
aq 3 24 [1,2,0,1,2]])
.ret)
.skip))
(.ops [
ck 25 4 7 [],
dk 4 4 25 [0,0]])))))
(.ops [
cM 26 .add 11 1 [],
aq 11 26 [0]]))))
def f260:bf:=⟨28,[.cell 2 true 4,.t 3],
(.seq (.ops [
aR 2 (.alloc [.pv (.int .u64 0),.pv (.int .u64 0),.pv (.int .u64 0),.pv (.int .u64 0)]) [],
jo 3 []])
(.seq (.ops [
aR 4 (.alloc [.pv (.int .u64 0),.pv (.int .u64 0),.pv (.int .u64 0),.pv (.int .u64 0)]) []])
(.seq (.seq (.ops [
aq 9 0 [],
fT 10 9 [0],
cR 11 0 []])
(.block 0
(.loop yH)))
(.seq (.ops [
ck 27 4 4 [],
dk 4 2 27 [0,0],
jo 3 [1,0,1]])
.ret))))⟩
def rT:bx :=
(.seq (.ops [
cM 13 .lss 12 4 []])
(.seq (.cond (.t 13)
.skip
(.exit 0))
(.seq (.block 1
(.seq (.ops [
aq 14 12 [],
aq 9 14 [0,0]])
(.seq (.draw [
aq 16 2 [],
aq 17 9 [],
aR 18 (.dA 4 1 (.t 3) (.t 17)) [1],
bR 19 1 18 [2],
aq 20 9 [],
aR 21 (.dA 4 1 (.t 4) (.t 20)) [4],
bR 22 1 21 [5],
aR 23 (.fK (.t 16) [.t 19,.t 22]) [0,3,6],
aq 15 23 [7],
fu 24 15 0 [8],
fu 25 15 1 [8],
aq 10 24 [9,7,0,1,2,3,4,5,6,7,8,9],
aq 11 25 [10,11,0,1,2,3,4,5,6,7,8,9,10,11]])
(.seq (.seq (.ops [
aq 26 11 [],
aR 27 (.not (.t 26)) [0]])
(.cond (.t 27)
(.seq (.ops [
aR 28 (.build [.pv (.int .u64 0),.pv (.int .u64 0),.pv (.int .u64 0),.pv (.int .u64 0)] []) [],
aR 29 (.lr 0 (.c (.pv (.int .i64 8)))) [],
dk 4 6 28 [0,0],
aq 7 29 [1,2,0,1,2]])
.ret)
.skip))
(.ops [
aq 30 9 [],
aq 31 10 [],
aR 32 (.dA 4 1 (.t 8) (.t 30)) [0,0,1],
dk 1 32 31 [2,1,0,1]])))))
(.ops [
cM 33 .add 12 1 [],
aq 12 33 [0]]))))
def f261:bf:=⟨35,[.cell 6 true 4,.t 7],
(.seq (.ops [
df 3 0 [],
df 4 1 [],
aR 6 (.alloc [.pv (.int .u64 0),.pv (.int .u64 0),.pv (.int .u64 0),.pv (.int .u64 0)]) [],
jo 7 []])
(.seq (.ops [
aR 8 (.alloc [.pv (.int .u64 0),.pv (.int .u64 0),.pv (.int .u64 0),.pv (.int .u64 0)]) []])
(.seq (.seq (.ops [
cR 12 0 []])
(.block 0
(.loop rT)))
(.seq (.ops [
ck 34 4 8 [],
dk 4 6 34 [0,0],
jo 7 [1,0,1]])
.ret))))⟩
def jX:fF:=⟨0,false,0,0,0⟩
def gw(id:Int)(l:List fF):Option fF:=l.find? (fun n=>decide (n.id=id))
def lU:Option fF->PV
 |some n=>.tuple [.agg (bO n),.bool true]
 |none=>.tuple [.agg (bO jX),.bool false]
theorem Fi{T:cK}(l:List fF)(id:Int)(hl:l.length<=2^30)(Q:Exit->St->Prop)(o:Option fF)
    (bS:o=none->∀fr hp nx,look fr 4=.ptr 1 0 0->ah hp 1=.var (dL (bO jX))->Q (.exit 0) ⟨fr,hp,nx⟩)
    (dK:∀n,o=some n->∀fr hp nx,look fr 4=.ptr 1 0 0->look fr 5=.pv (.bool true)->ah hp 1=.var (dL (bO n))->Q .ret ⟨fr,hp,nx⟩) :
    ∀(rest:List fF) (i:Nat),l.drop i=rest->i<=l.length->gw id rest=o->∀(fr:List (Nat×AV)) (hp:Hl) (nx:Nat),2<=nx->look fr 4=.ptr 1 0 0->ah hp 1=.var (dL (bO jX)) ->
     look fr 1=.pv (.int .i64 id)->look fr 9=.pv (.slice (l.map bO))->look fr 10=.pv (.int .i64 l.length)->look fr 11=.pv (.int .i64 i)->Wp T false (.loop Du) ⟨fr,hp,nx⟩ Q:=by
 intro rest;induction rest with
 |nil =>
  intro i hd hi ho fr hp nx hn h4 b1 h1 h9 h10 h11;have hlen:=drop_nil hd hi;rw[az,aY Du.eq_1];simp only[rM',aa,simprocAttr,h4,h1,h9,h10,h11,hlen,aP];refine bS ho.symm _ _ _ ?_ b1;simp only[bH,Nat.reduceEqDiff,aJ,h4]
 |cons n r ih =>
  intro i hd hi ho fr hp nx hn h4 b1 h1 h9 h10 h11;obtain⟨aN,hlt,hw,dh,cW,hb⟩:=drop_cons hd hl;have n1:¬nx=1:=by omega
  have rE:=b1;simp only[bO,jX,dL]at rE;rw[az,aY Du.eq_1];by_cases hk:n.id=id
  ·simp only[rM',aa,simprocAttr,h4,rE,h1,h9,h10,h11,hlt,aN,bO,n1,hk];refine dK n (by rw[<-ho];simp[gw,hk]) _ _ _ ?_ ?_ ?_
   all_goals simp only[bH,aD,Nat.reduceEqDiff,bz,aJ,h4,n1,bO,dL,hk]
  ·simp only[rM',aa,simprocAttr,h4,rE,h1,h9,h10,h11,hlt,aN,bO,n1,hk,hw];refine ih (i+1) dh cW (by rw[<-ho];simp[gw,hk]) _ _ _ (by omega) ?_ ?_ ?_ ?_ ?_ ?_
   all_goals simp only[bH,aD,Nat.reduceEqDiff,bz,aJ,h4,b1,n1,h1,h9,h10]
theorem DQ{T:cK}(h:Std T 81 f81)(s:bc)(id:Int)(hl:s.aT.length<=2^30):ba T 81 [aF s,.int .i64 id] (lU (gw id s.aT)):=by
 refine gives h rfl ?_;simp only[f81,rM',aa,simprocAttr,aF];refine Fi s.aT id hl _ (gw id s.aT) (fun ho fr hp nx h4 b1=>?_) (fun n ho fr hp nx h4 h5 b1=>?_) s.aT 0 rfl (aO _) rfl _ _ _ (ax _) rfl rfl rfl rfl rfl rfl
 ·simp only[bO,jX,dL]at b1;simp only[rM',aa,simprocAttr,ho,lU,h4,b1,bO,jX]
 ·simp only[bO,dL]at b1;simp only[rM',aa,simprocAttr,ho,lU,h4,h5,b1,bO]
def wx(ls:List fF)(a b:dm):Bool:=decide (a.load=b.load)&&(decide (a.node=b.node)&&(decide (a.node≠0)&&(match gw a.load ls with|some l=>l.apart|none=>false)))
theorem Ni{T:cK}(J0:Std T 69 f69)(DE:Std T 81 f81)(s:bc)(hs:s.aT.length<=2^30)(a b:dm):ba T 69 [aF s,.agg (aK a),.agg (aK b)] (.bool (wx s.aT a b)):=by
 refine gives J0 rfl ?_;have k:=DQ DE s a.load hs;unfold wx;cases hl:gw a.load s.aT with
 |none =>
  rw[hl]at k;by_cases c1:a.load=b.load
  ·by_cases c2:a.node=b.node
   ·by_cases c3:b.node=0
    ·simp only[f69,rM',aa,simprocAttr,aF,aK,k.call,lU,bO,jX,c1,c2,c3,dU,cA,bq,bB]
    ·simp only[f69,rM',aa,simprocAttr,aF,aK,k.call,lU,bO,jX,c1,c2,c3,dU,cA,bq,bB]
   ·simp only[f69,rM',aa,simprocAttr,aF,aK,k.call,lU,bO,jX,c1,c2,dU,cA,bq,bB]
  ·simp only[f69,rM',aa,simprocAttr,aF,aK,k.call,lU,bO,jX,c1,dU,cA,bq,bB]
 |some l =>
  rw[hl]at k;by_cases c1:a.load=b.load
  ·by_cases c2:a.node=b.node
   ·by_cases c3:b.node=0
    ·simp only[f69,rM',aa,simprocAttr,aF,aK,k.call,lU,bO,jX,c1,c2,c3,dU,cA,bq,bB]
    ·cases c4:l.apart
     ·simp only[f69,rM',aa,simprocAttr,aF,aK,k.call,lU,bO,jX,c1,c2,c3,c4,dU,cA,bq,bB]
     ·simp only[f69,rM',aa,simprocAttr,aF,aK,k.call,lU,bO,jX,c1,c2,c3,c4,dU,cA,bq,bB]
   ·simp only[f69,rM',aa,simprocAttr,aF,aK,k.call,lU,bO,jX,c1,c2,dU,cA,bq,bB]
  ·simp only[f69,rM',aa,simprocAttr,aF,aK,k.call,lU,bO,jX,c1,dU,cA,bq,bB]
def dN(ls:List fF):List dm->List dm->Option (Int×Int)
 |_,[]=>none
 |prev,p::r=>if prev.any (fun q=>wx ls p q)=true then some (10,prev.length)else dN ls (prev++[p]) r
theorem Gt{T:cK}(J0:Std T 69 f69)(DE:Std T 81 f81)(s:bc)(t:State)(hs:s.aT.length<=2^30)(qs:List dm)(hq:qs.length<=2^30)(p:dm)(i:Nat)(Pr:Nat)(Ut:2<=Pr)(Q:Exit->St->Prop)(b:Bool)
    (bS:b=false->∀fr hp nx,2<=nx->look fr 2=.ptr 0 0 0->look fr 3=.ptr 1 0 0->look fr 10=.pv (.slice (t.pods.map aK))->look fr 11=.pv (.int .i64 t.pods.length)->look fr 12=.pv (.int .i64 i) ->
     ah hp 0=.var [.pv (.slice (s.nodes.map bC)),.pv (.slice (s.aT.map bO)),.pv (.slice (s.pods.map aK))]->ah hp 1=.var [.pv (.slice (t.pods.map aK)),.pv (.int .i64 t.pre),.pv (.int .i64 t.fe)]->Q (.exit 2) ⟨fr,hp,nx⟩)
    (dK:b=true->∀fr hp nx id,look fr 4=.iface 1 (.ptr id 0 0)->ah hp id=.var [.pv (.int .i64 i),.pv (.int .i64 10)]->Q .ret ⟨fr,hp,nx⟩) :
    ∀(rest:List dm) (k:Nat),qs.drop k=rest->k<=qs.length->rest.any (fun q=>wx s.aT p q)=b->∀(fr:List (Nat×AV)) (hp:Hl) (nx:Nat),Pr<nx ->
     look fr 2=.ptr 0 0 0->look fr 3=.ptr 1 0 0->look fr 10=.pv (.slice (t.pods.map aK))->look fr 11=.pv (.int .i64 t.pods.length)->look fr 12=.pv (.int .i64 i) ->
     ah hp 0=.var [.pv (.slice (s.nodes.map bC)),.pv (.slice (s.aT.map bO)),.pv (.slice (s.pods.map aK))]->ah hp 1=.var [.pv (.slice (t.pods.map aK)),.pv (.int .i64 t.pre),.pv (.int .i64 t.fe)] ->
     look fr 5=.pv (.int .i64 i)->look fr 6=.ptr Pr 0 0->ah hp Pr=.var (dL (aK p))->look fr 20=.pv (.slice (qs.map aK))->look fr 21=.pv (.int .i64 qs.length)->look fr 22=.pv (.int .i64 k) ->
     Wp T false (.loop Dl) ⟨fr,hp,nx⟩ Q:=by
 intro rest;induction rest with
 |nil =>
  intro k hd hi hb fr hp nx hn h2 h3 h10 h11 mS b0 b1 h5 h6 bp Om On Qa;have hlen:=drop_nil hd hi;rw[az,aY Dl.eq_1];simp only[rM',aa,simprocAttr,Om,On,Qa,hlen,aP];refine bS (by rw[<-hb];rfl) _ _ _ (by omega) ?_ ?_ ?_ ?_ ?_ b0 b1
  all_goals simp only[bH,Nat.reduceEqDiff,aJ,h2,h3,h10,h11,mS]
 |cons q r ih =>
  intro k hd hi hb fr hp nx hn h2 h3 h10 h11 mS b0 b1 h5 h6 bp Om On Qa;obtain⟨aN,hlt,hw,dh,cW,Bp⟩:=drop_cons hd hq;have n0:¬nx=0:=by omega
  have n1:¬nx=1:=by omega
  have np:¬nx=Pr:=by omega
  have kt:=Ni J0 DE s hs p q;have QQ:=bp;simp only[aK,dL]at QQ;simp only[aK]at kt;rw[az,aY Dl.eq_1];cases ht:wx s.aT p q
  ·rw[ht]at kt;simp only[rM',aa,simprocAttr,h2,b0,h6,QQ,Om,On,Qa,hlt,aN,aK,n0,n1,np,kt.call,aF,hw];refine ih (k+1) dh cW (by rw[<-hb];simp[ht]) _ _ _ (by omega) ?_ ?_ ?_ ?_ ?_ ?_ ?_ ?_ ?_ ?_ ?_ ?_ ?_
   all_goals simp only[bH,aD,Nat.reduceEqDiff,bz,aJ,h2,h3,h10,h11,mS,b0,b1,h5,h6,bp,Om,On,n0,n1,np]
  ·rw[ht]at kt;simp only[rM',aa,simprocAttr,h2,b0,h5,h6,QQ,Om,On,Qa,hlt,aN,aK,n0,n1,np,kt.call,aF];refine dK (by rw[<-hb];simp[ht]) _ _ _ (nx+1) ?_ ?_
   ·simp only[bH,Nat.reduceEqDiff,bz,aJ]
   ·simp only[aD,bz]
theorem Ej{T:cK}(J0:Std T 69 f69)(DE:Std T 81 f81)(s:bc)(t:State)(hs:s.aT.length<=2^30)(ht:t.pods.length<=2^30)(Q:Exit->St->Prop)(o:Option (Int×Int))
    (bS:o=none->∀fr hp nx,Q (.exit 0) ⟨fr,hp,nx⟩)
    (dK:∀c i,o=some (c,i)->∀fr hp nx id,look fr 4=.iface 1 (.ptr id 0 0)->ah hp id=.var [.pv (.int .i64 i),.pv (.int .i64 c)]->Q .ret ⟨fr,hp,nx⟩) :
    ∀(rest:List dm) (i:Nat),t.pods.drop i=rest->i<=t.pods.length->dN s.aT (t.pods.take i) rest=o->∀(fr:List (Nat×AV)) (hp:Hl) (nx:Nat),2<=nx ->
     look fr 2=.ptr 0 0 0->look fr 3=.ptr 1 0 0->look fr 10=.pv (.slice (t.pods.map aK))->look fr 11=.pv (.int .i64 t.pods.length)->look fr 12=.pv (.int .i64 i) ->
     ah hp 0=.var [.pv (.slice (s.nodes.map bC)),.pv (.slice (s.aT.map bO)),.pv (.slice (s.pods.map aK))]->ah hp 1=.var [.pv (.slice (t.pods.map aK)),.pv (.int .i64 t.pre),.pv (.int .i64 t.fe)] ->
     Wp T false (.loop Dm) ⟨fr,hp,nx⟩ Q:=by
 intro rest;induction rest with
 |nil =>
  intro i hd hi ho fr hp nx hn h2 h3 h10 h11 mS b0 b1;have hlen:=drop_nil hd hi;rw[az,aY Dm.eq_1];simp only[rM',aa,simprocAttr,h10,h11,mS,hlen,aP];exact bS ho.symm _ _ _
 |cons p r ih =>
  intro i hd hi ho fr hp nx hn h2 h3 h10 h11 mS b0 b1;obtain⟨aN,hlt,hw,dh,cW,Bp⟩:=drop_cons hd ht;have n0:¬nx=0:=by omega
  have n1:¬nx=1:=by omega
  have uP:i<=t.pods.length:=by omega
  have Pl:(t.pods.take i).length=i:=List.length_take_of_le uP;simp only[dN,Pl]at ho;rw[az,aY Dm.eq_1];simp only[rM',aa,simprocAttr,h3,b1,h10,h11,mS,hlt,aN,aK,n0,n1,nX,nd,ic,ff,cT,aO,uP];simp only[Nat.sub_zero,<-List.map_take,al,Pl];refine Gt J0 DE s t hs (t.pods.take i) (by omega) p i nx hn _ ((t.pods.take i).any (fun q=>wx s.aT p q)) ?_ ?_ (t.pods.take i) 0 rfl (aO _) rfl _ _ _ (Nat.lt_succ_self _) ?_ ?_ ?_ ?_ ?_ ?_ ?_ ?_ ?_ ?_ ?_ ?_ ?_
  ·intro hb fG hp' cC g0 g2 g3 te ET nS U5 U6;simp only[rM',aa,simprocAttr,nS,hw];rw[ar (by rw[hb];simp)]at ho;refine ih (i+1) dh cW ?_ _ _ _ g0 ?_ ?_ ?_ ?_ ?_ U5 U6
   ·rw[<-ho,List.take_add_one,aN];rfl
   all_goals simp only[bH,Nat.reduceEqDiff,bz,aJ,g2,g3,te,ET,nS]
  ·intro hb fG hp' cC id g4 gb;rw[aW hb]at ho;simp only[rM',aa,simprocAttr];exact dK 10 i ho.symm _ _ _ id g4 gb
  all_goals simp only[bH,aD,Nat.reduceEqDiff,bz,aJ,h2,h3,h10,h11,mS,b0,b1,n0,n1,aK,dL,Pl]
  all_goals rfl
theorem Gu{T:cK}(Qc:Std T 68 f68)(J0:Std T 69 f69)(DE:Std T 81 f81)(s:bc)(t:State)(hs:s.aT.length<=2^30)(ht:t.pods.length<=2^30):ba T 68 [aF s,aw t] (mj (dN s.aT [] t.pods)):=by
 refine gives Qc rfl ?_;simp only[f68,rM',aa,simprocAttr,aF,aw];refine Ej J0 DE s t hs ht _ (dN s.aT [] t.pods) (fun ho fr hp nx=>?_) (fun c i ho fr hp nx id h4 hb=>?_) t.pods 0 rfl (aO _) rfl _ _ _ (ax _) rfl rfl rfl rfl rfl rfl rfl
 ·simp only[rM',aa,simprocAttr,ho,mj]
 ·simp only[rM',aa,simprocAttr,ho,mj,h4,hb,ix]
section
def cB(v:jD):PV:=.agg (cd v)
def cE:jD:=⟨0,0,0,0⟩
def jk(o:Int->Int->Int)(ok:Int->Int->Bool)(a b:jD):Option jD :=
 if ok a.a b.a=true then if ok a.b b.b=true then if ok a.c b.c=true then if ok a.d b.d=true then some ⟨o a.a b.a,o a.b b.b,o a.c b.c,o a.d b.d⟩else none else none else none else none
def ia:Option jD->PV
 |some v=>.tuple [cB v,.dI]
 |none=>.tuple [cB cE,ct 8]
theorem tG{T:cK}(h:Std T 259 f259)(x y:Int):ba T 259 [.int .u64 x,.int .u64 y] (.tuple [.int .u64 (IntKind.u64.wrap (x-y)),.bool (decide (y<=x))]):=by
 refine gives h rfl ?_;simp only[f259,ae,ag,aa,Nat.reduceEqDiff,Nat.reduceAdd,reduceCtorEq,Int.reduceToNat,Nat.reduceMul,Nat.reduceLT,Int.reduceNeg,Int.reduceLE,Int.reduceLT,Int.reduceEq,Nat.reduceLeDiff,List.drop,List.take,aS,aU]
set_option maxRecDepth 100000 in
set_option maxHeartbeats 4000000 in
theorem Dj{T:cK}(h:Std T 261 f261){n:Nat}(o:Int->Int->Int)(ok:Int->Int->Bool)(a b:jD)(ha:ba T n [.int .u64 a.a,.int .u64 b.a] (.tuple [.int .u64 (o a.a b.a),.bool (ok a.a b.a)]))
    (hb:ba T n [.int .u64 a.b,.int .u64 b.b] (.tuple [.int .u64 (o a.b b.b),.bool (ok a.b b.b)])) (hc:ba T n [.int .u64 a.c,.int .u64 b.c] (.tuple [.int .u64 (o a.c b.c),.bool (ok a.c b.c)]))
    (hd:ba T n [.int .u64 a.d,.int .u64 b.d] (.tuple [.int .u64 (o a.d b.d),.bool (ok a.d b.d)])):ba T 261 [cB a,cB b,.func n [] []] (ia (jk o ok a b)):=by
 refine gives h rfl ?_;have w0:IntKind.i64.wrap (0+1)=1:=by decide
 have w1:IntKind.i64.wrap (1+1)=2:=by decide
 have w2:IntKind.i64.wrap (2+1)=3:=by decide
 have w3:IntKind.i64.wrap (3+1)=4:=by decide
 simp only[f261,ae,ag,aa,Nat.reduceEqDiff,Nat.reduceAdd,reduceCtorEq,Int.reduceToNat,Nat.reduceMul,Nat.reduceLT,Int.reduceNeg,Int.reduceLE,Int.reduceLT,Int.reduceEq,Nat.reduceLeDiff,List.drop,List.take,aS,aU,cB,cd];rw[az,aY rT.eq_1];simp only[ae,ag,aa,Nat.reduceEqDiff,Nat.reduceAdd,reduceCtorEq,Int.reduceToNat,Nat.reduceMul,Nat.reduceLT,Int.reduceNeg,Int.reduceLE,Int.reduceLT,Int.reduceEq,Nat.reduceLeDiff,List.drop,List.take,aS,aU];refine(ef rfl).2 ?_;cases e1:ok a.a b.a
 ·simp only[ae,ag,aa,Nat.reduceEqDiff,Nat.reduceAdd,reduceCtorEq,Int.reduceToNat,Nat.reduceMul,Nat.reduceLT,Int.reduceNeg,Int.reduceLE,Int.reduceLT,Int.reduceEq,Nat.reduceLeDiff,List.drop,List.take,aS,aU,ha.cm,e1,jk,ia,cB,cd,cE,ct]
 ·simp only[ae,ag,aa,Nat.reduceEqDiff,Nat.reduceAdd,reduceCtorEq,Int.reduceToNat,Nat.reduceMul,Nat.reduceLT,Int.reduceNeg,Int.reduceLE,Int.reduceLT,Int.reduceEq,Nat.reduceLeDiff,List.drop,List.take,aS,aU,ha.cm,e1,w0];rw[az,aY rT.eq_1];simp only[ae,ag,aa,Nat.reduceEqDiff,Nat.reduceAdd,reduceCtorEq,Int.reduceToNat,Nat.reduceMul,Nat.reduceLT,Int.reduceNeg,Int.reduceLE,Int.reduceLT,Int.reduceEq,Nat.reduceLeDiff,List.drop,List.take,aS,aU];refine(ef rfl).2 ?_;cases e2:ok a.b b.b
  ·simp only[ae,ag,aa,Nat.reduceEqDiff,Nat.reduceAdd,reduceCtorEq,Int.reduceToNat,Nat.reduceMul,Nat.reduceLT,Int.reduceNeg,Int.reduceLE,Int.reduceLT,Int.reduceEq,Nat.reduceLeDiff,List.drop,List.take,aS,aU,hb.cm,e1,e2,jk,ia,cB,cd,cE,ct]
  ·simp only[ae,ag,aa,Nat.reduceEqDiff,Nat.reduceAdd,reduceCtorEq,Int.reduceToNat,Nat.reduceMul,Nat.reduceLT,Int.reduceNeg,Int.reduceLE,Int.reduceLT,Int.reduceEq,Nat.reduceLeDiff,List.drop,List.take,aS,aU,hb.cm,e2,w1];rw[az,aY rT.eq_1];simp only[ae,ag,aa,Nat.reduceEqDiff,Nat.reduceAdd,reduceCtorEq,Int.reduceToNat,Nat.reduceMul,Nat.reduceLT,Int.reduceNeg,Int.reduceLE,Int.reduceLT,Int.reduceEq,Nat.reduceLeDiff,List.drop,List.take,aS,aU];refine(ef rfl).2 ?_;cases e3:ok a.c b.c
   ·simp only[ae,ag,aa,Nat.reduceEqDiff,Nat.reduceAdd,reduceCtorEq,Int.reduceToNat,Nat.reduceMul,Nat.reduceLT,Int.reduceNeg,Int.reduceLE,Int.reduceLT,Int.reduceEq,Nat.reduceLeDiff,List.drop,List.take,aS,aU,hc.cm,e1,e2,e3,jk,ia,cB,cd,cE,ct]
   ·simp only[ae,ag,aa,Nat.reduceEqDiff,Nat.reduceAdd,reduceCtorEq,Int.reduceToNat,Nat.reduceMul,Nat.reduceLT,Int.reduceNeg,Int.reduceLE,Int.reduceLT,Int.reduceEq,Nat.reduceLeDiff,List.drop,List.take,aS,aU,hc.cm,e3,w2];rw[az,aY rT.eq_1];simp only[ae,ag,aa,Nat.reduceEqDiff,Nat.reduceAdd,reduceCtorEq,Int.reduceToNat,Nat.reduceMul,Nat.reduceLT,Int.reduceNeg,Int.reduceLE,Int.reduceLT,Int.reduceEq,Nat.reduceLeDiff,List.drop,List.take,aS,aU];refine(ef rfl).2 ?_;cases e4:ok a.d b.d
    ·simp only[ae,ag,aa,Nat.reduceEqDiff,Nat.reduceAdd,reduceCtorEq,Int.reduceToNat,Nat.reduceMul,Nat.reduceLT,Int.reduceNeg,Int.reduceLE,Int.reduceLT,Int.reduceEq,Nat.reduceLeDiff,List.drop,List.take,aS,aU,hd.cm,e1,e2,e3,e4,jk,ia,cB,cd,cE,ct]
    ·simp only[ae,ag,aa,Nat.reduceEqDiff,Nat.reduceAdd,reduceCtorEq,Int.reduceToNat,Nat.reduceMul,Nat.reduceLT,Int.reduceNeg,Int.reduceLE,Int.reduceLT,Int.reduceEq,Nat.reduceLeDiff,List.drop,List.take,aS,aU,hd.cm,e4,w3];rw[az,aY rT.eq_1];simp only[ae,ag,aa,Nat.reduceEqDiff,Nat.reduceAdd,reduceCtorEq,Int.reduceToNat,Nat.reduceMul,Nat.reduceLT,Int.reduceNeg,Int.reduceLE,Int.reduceLT,Int.reduceEq,Nat.reduceLeDiff,List.drop,List.take,aS,aU,e1,e2,e3,e4,jk,ia,cB,cd,cE,ct]
theorem vM{n:Int}(h1:0<=n)(h2:n<18446744073709551616):IntKind.u64.wrap n=n:=by
 simp only[IntKind.wrap,IntKind.bits,IntKind.signed];simp;omega
/-! ### The uh SF -/
def DF(a:Int)(up:Bool):Int:=cond up (a/4294967296) (a % 4294967296)
theorem tw{T:cK}(h:Std T 144 f144)(a:Int)(up:Bool)(ha:Cf a):ba T 144 [.int .u64 a,.bool up] (.int .u64 (DF a up)):=by
 refine gives h rfl ?_;obtain⟨h1,h2⟩:=ha;have e1:a.tdiv (Int.ofNat 4294967296)=a/4294967296:=Int.tdiv_eq_ediv_of_nonneg h1;have e2:a.tmod (Int.ofNat 4294967296)=a % 4294967296:=Int.tmod_eq_emod_of_nonneg h1;have e3:IntKind.u64.wrap (a/4294967296)=a/4294967296:=vM (by omega) (by omega);cases up
 ·simp only[f144,ae,ag,aa,Nat.reduceEqDiff,Nat.reduceAdd,reduceCtorEq,Int.reduceToNat,Nat.reduceMul,Nat.reduceLT,Int.reduceNeg,Int.reduceLE,Int.reduceLT,Int.reduceEq,Nat.reduceLeDiff,List.drop,List.take,aS,aU,e1,e2,e3,DF]
 ·simp only[f144,ae,ag,aa,Nat.reduceEqDiff,Nat.reduceAdd,reduceCtorEq,Int.reduceToNat,Nat.reduceMul,Nat.reduceLT,Int.reduceNeg,Int.reduceLE,Int.reduceLT,Int.reduceEq,Nat.reduceLeDiff,List.drop,List.take,aS,aU,e1,e2,e3,DF]
def gk(a b:Int):Bool:=decide (a+b<18446744073709551616)
def Bg(a b:Int):Int:=cond (gk a b) (a+b) 0
theorem ze{T:cK}(qS:Std T 145 f145)(oA:Std T 144 f144)(a b:Int)(ha:Cf a)(hb:Cf b):ba T 145 [.int .u64 a,.int .u64 b] (.tuple [.int .u64 (Bg a b),.bool (gk a b)]):=by
 refine gives qS rfl ?_;have k1:=tw oA a false ha;have k2:=tw oA b false hb;have k3:=tw oA a true ha;have k4:=tw oA b true hb;obtain⟨a1,a2⟩:=ha;obtain⟨b1,b2⟩:=hb;simp only[DF,gT,fp]at k1 k2 k3 k4;have e1:IntKind.u64.wrap (a % 4294967296+b % 4294967296)=a % 4294967296+b % 4294967296:=vM (by omega) (by omega);have e2:IntKind.u64.wrap (a/4294967296+b/4294967296)=a/4294967296+b/4294967296:=vM (by omega) (by omega);have e3:(a % 4294967296+b % 4294967296).tdiv (Int.ofNat 4294967296)=(a % 4294967296+b % 4294967296)/4294967296:=Int.tdiv_eq_ediv_of_nonneg (by omega);have e4:IntKind.u64.wrap ((a % 4294967296+b % 4294967296)/4294967296)=(a % 4294967296+b % 4294967296)/4294967296:=vM (by omega) (by omega);have e5:IntKind.u64.wrap (a/4294967296+b/4294967296+(a % 4294967296+b % 4294967296)/4294967296)=(a+b)/4294967296:=by
  rw[vM (by omega) (by omega)];omega
 have e6:(a % 4294967296+b % 4294967296).tmod (Int.ofNat 4294967296)=(a+b) % 4294967296:=by
  rw[Int.tmod_eq_emod_of_nonneg (by omega)];show(a % 4294967296+b % 4294967296) % 4294967296=_;omega
 by_cases c:4294967296<=(a+b)/4294967296
 ·have hs:gk a b=false:=by simp only[gk,decide_eq_false_iff_not];omega
  simp only[f145,ae,ag,aa,Nat.reduceEqDiff,Nat.reduceAdd,reduceCtorEq,Int.reduceToNat,Nat.reduceMul,Nat.reduceLT,Int.reduceNeg,Int.reduceLE,Int.reduceLT,Int.reduceEq,Nat.reduceLeDiff,List.drop,List.take,aS,aU,k1.call,k2.call,k3.call,k4.call,e1,e2,e3,e4,e5,c,Bg,hs]
 ·have hs:gk a b=true:=by simp only[gk,bI];omega
  have e7:IntKind.u64.wrap ((a+b)/4294967296*4294967296)=(a+b)/4294967296*4294967296:=vM (by omega) (by omega);have e8:IntKind.u64.wrap ((a+b)/4294967296*4294967296+(a+b) % 4294967296)=a+b:=by
   rw[vM (by omega) (by omega)];omega
  simp only[f145,ae,ag,aa,Nat.reduceEqDiff,Nat.reduceAdd,reduceCtorEq,Int.reduceToNat,Nat.reduceMul,Nat.reduceLT,Int.reduceNeg,Int.reduceLE,Int.reduceLT,Int.reduceEq,Nat.reduceLeDiff,List.drop,List.take,aS,aU,k1.call,k2.call,k3.call,k4.call,e1,e2,e3,e4,e5,e6,e7,e8,c,Bg,hs]
def pT(a b:jD):Option jD:=jk Bg gk a b
def jL:Option jD->PV
 |some v=>.tuple [cB v,.bool true]
 |none=>.tuple [cB cE,.bool false]
set_option maxRecDepth 100000 in
set_option maxHeartbeats 4000000 in
theorem Gn{T:cK}(yP:Std T 140 f140)(qS:Std T 145 f145)(oA:Std T 144 f144)(a b:jD)(ha:a.wf)(hb:b.wf):ba T 140 [cB a,cB b] (jL (pT a b)):=by
 refine gives yP rfl ?_;obtain⟨x1,x2,x3,x4⟩:=ha;obtain⟨y1,y2,y3,y4⟩:=hb;have ka:=ze qS oA a.a b.a x1 y1;have kb:=ze qS oA a.b b.b x2 y2;have kc:=ze qS oA a.c b.c x3 y3;have kd:=ze qS oA a.d b.d x4 y4;have w0:IntKind.i64.wrap (0+1)=1:=by decide
 have w1:IntKind.i64.wrap (1+1)=2:=by decide
 have w2:IntKind.i64.wrap (2+1)=3:=by decide
 have w3:IntKind.i64.wrap (3+1)=4:=by decide
 simp only[f140,ae,ag,aa,Nat.reduceEqDiff,Nat.reduceAdd,reduceCtorEq,Int.reduceToNat,Nat.reduceMul,Nat.reduceLT,Int.reduceNeg,Int.reduceLE,Int.reduceLT,Int.reduceEq,Nat.reduceLeDiff,List.drop,List.take,aS,aU,cB,cd];rw[az,aY rP.eq_1];simp only[ae,ag,aa,Nat.reduceEqDiff,Nat.reduceAdd,reduceCtorEq,Int.reduceToNat,Nat.reduceMul,Nat.reduceLT,Int.reduceNeg,Int.reduceLE,Int.reduceLT,Int.reduceEq,Nat.reduceLeDiff,List.drop,List.take,aS,aU];refine(ef rfl).2 ?_;cases e1:gk a.a b.a
 ·simp only[ae,ag,aa,Nat.reduceEqDiff,Nat.reduceAdd,reduceCtorEq,Int.reduceToNat,Nat.reduceMul,Nat.reduceLT,Int.reduceNeg,Int.reduceLE,Int.reduceLT,Int.reduceEq,Nat.reduceLeDiff,List.drop,List.take,aS,aU,ka.cm,e1,pT,jk,jL,cB,cd,cE]
 ·simp only[ae,ag,aa,Nat.reduceEqDiff,Nat.reduceAdd,reduceCtorEq,Int.reduceToNat,Nat.reduceMul,Nat.reduceLT,Int.reduceNeg,Int.reduceLE,Int.reduceLT,Int.reduceEq,Nat.reduceLeDiff,List.drop,List.take,aS,aU,ka.cm,e1,w0];rw[az,aY rP.eq_1];simp only[ae,ag,aa,Nat.reduceEqDiff,Nat.reduceAdd,reduceCtorEq,Int.reduceToNat,Nat.reduceMul,Nat.reduceLT,Int.reduceNeg,Int.reduceLE,Int.reduceLT,Int.reduceEq,Nat.reduceLeDiff,List.drop,List.take,aS,aU];refine(ef rfl).2 ?_;cases e2:gk a.b b.b
  ·simp only[ae,ag,aa,Nat.reduceEqDiff,Nat.reduceAdd,reduceCtorEq,Int.reduceToNat,Nat.reduceMul,Nat.reduceLT,Int.reduceNeg,Int.reduceLE,Int.reduceLT,Int.reduceEq,Nat.reduceLeDiff,List.drop,List.take,aS,aU,kb.cm,e1,e2,pT,jk,jL,cB,cd,cE]
  ·simp only[ae,ag,aa,Nat.reduceEqDiff,Nat.reduceAdd,reduceCtorEq,Int.reduceToNat,Nat.reduceMul,Nat.reduceLT,Int.reduceNeg,Int.reduceLE,Int.reduceLT,Int.reduceEq,Nat.reduceLeDiff,List.drop,List.take,aS,aU,kb.cm,e2,w1];rw[az,aY rP.eq_1];simp only[ae,ag,aa,Nat.reduceEqDiff,Nat.reduceAdd,reduceCtorEq,Int.reduceToNat,Nat.reduceMul,Nat.reduceLT,Int.reduceNeg,Int.reduceLE,Int.reduceLT,Int.reduceEq,Nat.reduceLeDiff,List.drop,List.take,aS,aU];refine(ef rfl).2 ?_;cases e3:gk a.c b.c
   ·simp only[ae,ag,aa,Nat.reduceEqDiff,Nat.reduceAdd,reduceCtorEq,Int.reduceToNat,Nat.reduceMul,Nat.reduceLT,Int.reduceNeg,Int.reduceLE,Int.reduceLT,Int.reduceEq,Nat.reduceLeDiff,List.drop,List.take,aS,aU,kc.cm,e1,e2,e3,pT,jk,jL,cB,cd,cE]
   ·simp only[ae,ag,aa,Nat.reduceEqDiff,Nat.reduceAdd,reduceCtorEq,Int.reduceToNat,Nat.reduceMul,Nat.reduceLT,Int.reduceNeg,Int.reduceLE,Int.reduceLT,Int.reduceEq,Nat.reduceLeDiff,List.drop,List.take,aS,aU,kc.cm,e3,w2];rw[az,aY rP.eq_1];simp only[ae,ag,aa,Nat.reduceEqDiff,Nat.reduceAdd,reduceCtorEq,Int.reduceToNat,Nat.reduceMul,Nat.reduceLT,Int.reduceNeg,Int.reduceLE,Int.reduceLT,Int.reduceEq,Nat.reduceLeDiff,List.drop,List.take,aS,aU];refine(ef rfl).2 ?_;cases e4:gk a.d b.d
    ·simp only[ae,ag,aa,Nat.reduceEqDiff,Nat.reduceAdd,reduceCtorEq,Int.reduceToNat,Nat.reduceMul,Nat.reduceLT,Int.reduceNeg,Int.reduceLE,Int.reduceLT,Int.reduceEq,Nat.reduceLeDiff,List.drop,List.take,aS,aU,kd.cm,e1,e2,e3,e4,pT,jk,jL,cB,cd,cE]
    ·simp only[ae,ag,aa,Nat.reduceEqDiff,Nat.reduceAdd,reduceCtorEq,Int.reduceToNat,Nat.reduceMul,Nat.reduceLT,Int.reduceNeg,Int.reduceLE,Int.reduceLT,Int.reduceEq,Nat.reduceLeDiff,List.drop,List.take,aS,aU,kd.cm,e4,w3];rw[az,aY rP.eq_1];simp only[ae,ag,aa,Nat.reduceEqDiff,Nat.reduceAdd,reduceCtorEq,Int.reduceToNat,Nat.reduceMul,Nat.reduceLT,Int.reduceNeg,Int.reduceLE,Int.reduceLT,Int.reduceEq,Nat.reduceLeDiff,List.drop,List.take,aS,aU,e1,e2,e3,e4,pT,jk,jL,cB,cd,cE]
def pM(a b:jD):Bool:=decide (a.a<=b.a)&&(decide (a.b<=b.b)&&(decide (a.c<=b.c)&&decide (a.d<=b.d)))
theorem Dz{T:cK}(Ao:Std T 141 f141)(a b:jD):ba T 141 [cB a,cB b] (.bool (pM a b)):=by
 refine gives Ao rfl ?_;unfold pM;by_cases c1:a.a<=b.a
 ·by_cases c2:a.b<=b.b
  ·by_cases c3:a.c<=b.c
   ·by_cases c4:a.d<=b.d
    ·simp only[f141,ae,ag,aa,Nat.reduceEqDiff,Nat.reduceAdd,reduceCtorEq,Int.reduceToNat,Nat.reduceMul,Nat.reduceLT,Int.reduceNeg,Int.reduceLE,Int.reduceLT,Int.reduceEq,Nat.reduceLeDiff,List.drop,List.take,aS,aU,cB,cd,c1,c2,c3,c4,bB]
    ·simp only[f141,ae,ag,aa,Nat.reduceEqDiff,Nat.reduceAdd,reduceCtorEq,Int.reduceToNat,Nat.reduceMul,Nat.reduceLT,Int.reduceNeg,Int.reduceLE,Int.reduceLT,Int.reduceEq,Nat.reduceLeDiff,List.drop,List.take,aS,aU,cB,cd,c1,c2,c3,c4,bB,dU]
   ·simp only[f141,ae,ag,aa,Nat.reduceEqDiff,Nat.reduceAdd,reduceCtorEq,Int.reduceToNat,Nat.reduceMul,Nat.reduceLT,Int.reduceNeg,Int.reduceLE,Int.reduceLT,Int.reduceEq,Nat.reduceLeDiff,List.drop,List.take,aS,aU,cB,cd,c1,c2,c3,bB,cA,dU]
  ·simp only[f141,ae,ag,aa,Nat.reduceEqDiff,Nat.reduceAdd,reduceCtorEq,Int.reduceToNat,Nat.reduceMul,Nat.reduceLT,Int.reduceNeg,Int.reduceLE,Int.reduceLT,Int.reduceEq,Nat.reduceLeDiff,List.drop,List.take,aS,aU,cB,cd,c1,c2,bB,cA,dU]
 ·simp only[f141,ae,ag,aa,Nat.reduceEqDiff,Nat.reduceAdd,reduceCtorEq,Int.reduceToNat,Nat.reduceMul,Nat.reduceLT,Int.reduceNeg,Int.reduceLE,Int.reduceLT,Int.reduceEq,Nat.reduceLeDiff,List.drop,List.take,aS,aU,cB,cd,c1,cA]
def sG(x y:Int):Int:=IntKind.u64.wrap (x-y)
def Qw(x y:Int):Bool:=decide (y<=x)
def nN(a b:jD):Option jD:=jk sG Qw a b
theorem E4(a b:jD):nN a b=if pM b a=true then some ⟨sG a.a b.a,sG a.b b.b,sG a.c b.c,sG a.d b.d⟩else none:=by
 unfold nN jk Qw pM;by_cases c1:b.a<=a.a <;>by_cases c2:b.b<=a.b <;>by_cases c3:b.c<=a.c <;>by_cases c4:b.d<=a.d <;>simp[c1,c2,c3,c4]
theorem Bf{T:cK}(JP:Std T 142 f142)(Ao:Std T 141 f141)(a b:jD):ba T 142 [cB a,cB b] (jL (nN a b)):=by
 refine gives JP rfl ?_;have k:=Dz Ao b a;simp only[cB,cd]at k;rw[E4];cases hf:pM b a
 ·rw[hf]at k;simp only[f142,ae,ag,aa,Nat.reduceEqDiff,Nat.reduceAdd,reduceCtorEq,Int.reduceToNat,Nat.reduceMul,Nat.reduceLT,Int.reduceNeg,Int.reduceLE,Int.reduceLT,Int.reduceEq,Nat.reduceLeDiff,List.drop,List.take,aS,aU,cB,cd,k.call,jL,cE]
 ·rw[hf]at k;simp only[f142,ae,ag,aa,Nat.reduceEqDiff,Nat.reduceAdd,reduceCtorEq,Int.reduceToNat,Nat.reduceMul,Nat.reduceLT,Int.reduceNeg,Int.reduceLE,Int.reduceLT,Int.reduceEq,Nat.reduceLeDiff,List.drop,List.take,aS,aU,cB,cd,k.call,jL,sG]
/-! ### vec's own SF -/
theorem CW{T:cK}(EZ:Std T 258 f258)(yR:Std T 261 f261)(yQ:Std T 259 f259)(a b:jD):ba T 258 [cB a,cB b] (ia (nN a b)):=by
 refine gives EZ rfl ?_;have k:=Dj yR (n:=259) sG Qw a b (tG yQ _ _) (tG yQ _ _) (tG yQ _ _) (tG yQ _ _);simp only[cB,cd]at k;have e:jk sG Qw a b=nN a b:=rfl;rw[e]at k;cases ho:nN a b with
 |none =>
  rw[ho]at k;simp only[ia,cB,cd,cE,ct]at k;simp only[f258,ae,ag,aa,Nat.reduceEqDiff,Nat.reduceAdd,reduceCtorEq,Int.reduceToNat,Nat.reduceMul,Nat.reduceLT,Int.reduceNeg,Int.reduceLE,Int.reduceLT,Int.reduceEq,Nat.reduceLeDiff,List.drop,List.take,aS,aU,cB,cd,k.call,ia,cE,ct]
 |some v =>
  rw[ho]at k;simp only[ia,cB,cd]at k;simp only[f258,ae,ag,aa,Nat.reduceEqDiff,Nat.reduceAdd,reduceCtorEq,Int.reduceToNat,Nat.reduceMul,Nat.reduceLT,Int.reduceNeg,Int.reduceLE,Int.reduceLT,Int.reduceEq,Nat.reduceLeDiff,List.drop,List.take,aS,aU,cB,cd,k.call,ia]
def sy(args:List AV)(hp:Hl)(nx:Nat):Option (AV×Hl×Nat) :=
 match args with
 |[.pv (.int .u64 x),.pv (.int .u64 y)]=>if 0<=x/\x<=18446744073709551615/\0<=y/\y<=18446744073709551615 then some (.pv (.tuple [.int .u64 ((x+y) % 18446744073709551616),.bool (gk x y)]),hp,nx)else none
 |_=>none
theorem add1P_raw{E:Env}{n:Nat}(pZ:E8 E n)
    (h1:∀(x y:Nat) (w:World),Calls E.P (E.ρ n) #[.int .u64 (x:Int),.int .u64 (y:Int)] w fun e w'=>e=.returned (.tuple #[.int .u64 (((x+y) % 18446744073709551616:Nat):Int),.bool (decide (((x+y)/18446744073709551616:Nat)=0))])/\w'=w)
    (args:List AV) (hp:Hl) (nx:Nat) (v:AV) (hp':Hl) (cC:Nat) (h:sy args hp nx=some (v,hp',cC)):kl E n args hp nx v hp' cC:=by
 refine⟨pZ,fun X M F a w vs hX R hv=>?_⟩;subst hX;unfold sy at h;split at h
 ·rename_i x y;split at h
  ·rename_i hc;simp only[ai,aZ]at h;obtain⟨rfl,rfl,rfl⟩:=h;simp only[ed,VA,VP]at hv;obtain⟨_,_,rfl,rfl,_,_,rfl,rfl,rfl⟩:=hv;obtain⟨m,rfl⟩:∃m:Nat,x=m:=⟨x.toNat,by omega⟩;obtain⟨k,rfl⟩:∃k:Nat,y=k:=⟨y.toNat,by omega⟩;refine(h1 m k w).mono fun e w' hh=>?_;obtain⟨rfl,rfl⟩:=hh;refine⟨_,M,rfl,R,?_⟩;simp only[VA,VP,VPs];refine⟨_,rfl,_,_,rfl,?_,_,_,rfl,?_,rfl⟩
   ·rw[show(((m+k) % 18446744073709551616:Nat):Int)=((m:Int)+(k:Int)) % 18446744073709551616 by omega]
   ·have:(decide ((m+k)/18446744073709551616=0))=gk (m:Int) (k:Int):=by
     simp only[gk];rw[decide_eq_decide];omega
    rw[this]
  ·simp at h
 ·simp at h
theorem tn{T:cK}{n:Nat}(S:Ef T n sy)(x y:Int)(hx:Cf x)(hy:Cf y):ba T n [.int .u64 x,.int .u64 y] (.tuple [.int .u64 ((x+y) % 18446744073709551616),.bool (gk x y)]):=by
 refine⟨S.raw,S.own,none,?_⟩;have:sy (dL [.int .u64 x,.int .u64 y]) [] 0=some (.pv (.tuple [.int .u64 ((x+y) % 18446744073709551616),.bool (gk x y)]),[],0):=by
  simp only[dL,sy];rw[aW ⟨hx.1,hx.2,hy.1,hy.2⟩]
 unfold du;rw[iD S.fW this];simp only[dD,dH,fi]
def Kx(x y:Int):Int:=(x+y) % 18446744073709551616
theorem Gp(a b:jD)(ha:a.wf)(hb:b.wf):jk Kx gk a b=pT a b:=by
 obtain⟨⟨p1,_⟩,⟨p2,_⟩,⟨p3,_⟩,⟨p4,_⟩⟩:=ha;obtain⟨⟨q1,_⟩,⟨q2,_⟩,⟨q3,_⟩,⟨q4,_⟩⟩:=hb;have key:∀x y:Int,0<=x->0<=y->gk x y=true->Kx x y=Bg x y:=by
  intro x y h1 h2 h3;simp only[Bg,h3,gT,Kx];simp only[gk,bI]at h3;omega
 unfold pT jk;cases c1:gk a.a b.a
 ·simp
 ·cases c2:gk a.b b.b
  ·simp
  ·cases c3:gk a.c b.c
   ·simp
   ·cases c4:gk a.d b.d
    ·simp
    ·simp only[bz,key _ _ p1 q1 c1,key _ _ p2 q2 c2,key _ _ p3 q3 c3,key _ _ p4 q4 c4]
theorem M6{T:cK}(Mp:Std T 255 f255)(yR:Std T 261 f261)(S:Ef T 256 sy)(a b:jD)(ha:a.wf)(hb:b.wf):ba T 255 [cB a,cB b] (ia (pT a b)):=by
 refine gives Mp rfl ?_;have hA:=ha;have hB:=hb;obtain⟨x1,x2,x3,x4⟩:=ha;obtain⟨y1,y2,y3,y4⟩:=hb;have k:=Dj yR (n:=256) Kx gk a b (tn S _ _ x1 y1) (tn S _ _ x2 y2) (tn S _ _ x3 y3) (tn S _ _ x4 y4);simp only[cB,cd]at k;rw[Gp a b hA hB]at k;cases ho:pT a b with
 |none =>
  rw[ho]at k;simp only[ia,cB,cd,cE,ct]at k;simp only[f255,ae,ag,aa,Nat.reduceEqDiff,Nat.reduceAdd,reduceCtorEq,Int.reduceToNat,Nat.reduceMul,Nat.reduceLT,Int.reduceNeg,Int.reduceLE,Int.reduceLT,Int.reduceEq,Nat.reduceLeDiff,List.drop,List.take,aS,aU,cB,cd,k.call,ia,cE,ct]
 |some v =>
  rw[ho]at k;simp only[ia,cB,cd]at k;simp only[f255,ae,ag,aa,Nat.reduceEqDiff,Nat.reduceAdd,reduceCtorEq,Int.reduceToNat,Nat.reduceMul,Nat.reduceLT,Int.reduceNeg,Int.reduceLE,Int.reduceLT,Int.reduceEq,Nat.reduceLeDiff,List.drop,List.take,aS,aU,cB,cd,k.call,ia]
end
theorem Da{a b v:jD}(ha:a.wf)(hb:b.wf)(h:pT a b=some v):v.wf:=by
 obtain⟨⟨p1,_⟩,⟨p2,_⟩,⟨p3,_⟩,⟨p4,_⟩⟩:=ha;obtain⟨⟨q1,_⟩,⟨q2,_⟩,⟨q3,_⟩,⟨q4,_⟩⟩:=hb;have key:∀x y:Int,0<=x->0<=y->Cf (Bg x y):=by
  intro x y h1 h2;unfold Bg;cases hs:gk x y
  ·exact⟨by simp,by simp⟩
  ·simp only[gk,bI]at hs;simp only[gT];exact⟨by omega,by omega⟩
 unfold pT jk at h;split at h
 ·split at h
  ·split at h
   ·split at h
    ·simp only[ai]at h;subst h;exact⟨key _ _ p1 q1,key _ _ p2 q2,key _ _ p3 q3,key _ _ p4 q4⟩
    ·simp at h
   ·simp at h
  ·simp at h
 ·simp at h
def gO(acc:jD):List jD->Option jD
 |[]=>some acc
 |v::r=>match pT acc v with
  |some n=>gO n r
  |none=>none
structure Jg(T:cK):Prop where
 Mp:Std T 255 f255
 yR:Std T 261 f261
 Rw:Ef T 256 sy
 Ry:Std T 260 f260
theorem Iy{T:cK}(S:Jg T)(l:List jD)(hl:l.length<=2^30)(MR:∀v∈l,v.wf)(Q:Exit->St->Prop)(o:Option jD)
    (bS:∀v,o=some v->∀fr hp nx,look fr 2=.ptr 0 0 0->look fr 4=.ptr 1 0 0->ah hp 0=.var (dL (cd cE))->ah hp 1=.var (dL (cd v))->Q (.exit 0) ⟨fr,hp,nx⟩)
    (dK:o=none->∀fr hp nx,look fr 2=.ptr 0 0 0->look fr 3=.pv (ct 8)->ah hp 0=.var (dL (cd cE))->Q .ret ⟨fr,hp,nx⟩) :
    ∀(rest:List jD) (i:Nat) (acc:jD),l.drop i=rest->i<=l.length->acc.wf->gO acc rest=o->∀(fr:List (Nat×AV)) (hp:Hl) (nx:Nat),2<=nx->look fr 2=.ptr 0 0 0->look fr 4=.ptr 1 0 0 ->
     ah hp 0=.var (dL (cd cE))->ah hp 1=.var (dL (cd acc))->look fr 9=.pv (.slice (l.map cd))->look fr 10=.pv (.int .i64 l.length)->look fr 11=.pv (.int .i64 i)->Wp T false (.loop yH) ⟨fr,hp,nx⟩ Q:=by
 intro rest;induction rest with
 |nil =>
  intro i acc hd hi ha ho fr hp nx hn h2 h4 b0 b1 h9 h10 h11;have hlen:=drop_nil hd hi;rw[az,aY yH.eq_1];simp only[rM',aa,simprocAttr,h9,h10,h11,hlen,aP];refine bS acc ho.symm _ _ _ ?_ ?_ b0 b1
  all_goals simp only[bH,Nat.reduceEqDiff,aJ,h2,h4]
 |cons v r ih =>
  intro i acc hd hi ha ho fr hp nx hn h2 h4 b0 b1 h9 h10 h11;obtain⟨aN,hlt,hw,dh,cW,hb⟩:=drop_cons hd hl;have n0:¬nx=0:=by omega
  have n1:¬nx=1:=by omega
  have hv:v.wf:=MR v (M1.2 ⟨i,aN⟩);have k:=M6 S.Mp S.yR S.Rw acc v ha hv;have Jq:=b0;have rE:=b1;simp only[cd,cE,dL]at Jq rE;simp only[cB,cd]at k;simp only[gO]at ho;rw[az,aY yH.eq_1];cases hs:pT acc v with
  |none =>
   rw[hs]at k ho;simp only[ia,cB,cd,cE,ct]at k;simp only[rM',aa,simprocAttr,h2,h4,Jq,rE,h9,h10,h11,hlt,aN,cd,n0,n1,k.call];refine dK ho.symm _ _ _ ?_ ?_ ?_
   all_goals simp only[bH,aD,Nat.reduceEqDiff,bz,aJ,h2,ct,cd,cE,dL]
  |some n =>
   rw[hs]at k ho;simp only[ia,cB,cd]at k;simp only[rM',aa,simprocAttr,h2,h4,Jq,rE,h9,h10,h11,hlt,aN,cd,n0,n1,k.call,hw];refine ih (i+1) n dh cW (Da ha hv hs) ho _ _ _ (by omega) ?_ ?_ ?_ ?_ ?_ ?_ ?_
   all_goals simp only[bH,aD,Nat.reduceEqDiff,bz,aJ,h2,h4,b0,n0,n1,h9,h10,cd,dL]
theorem E5:cE.wf:=by
 refine⟨⟨?_,?_⟩,⟨?_,?_⟩,⟨?_,?_⟩,⟨?_,?_⟩⟩ <;>decide
theorem Ng{T:cK}(S:Jg T)(l:List jD)(hl:l.length<=2^30)(MR:∀v∈l,v.wf):ba T 260 [.slice (l.map cd)] (ia (gO cE l)):=by
 refine gives S.Ry rfl ?_;simp only[f260,rM',aa,simprocAttr];refine Iy S l hl MR _ (gO cE l) (fun v ho fr hp nx g2 g4 c0 c1=>?_) (fun ho fr hp nx g2 g3 c0=>?_) l 0 cE rfl (aO _) E5 rfl _ _ _ (ax _) rfl rfl rfl rfl rfl rfl rfl
 ·simp only[cd,cE,dL]at c0 c1;simp only[ho];simp only[rM',aa,simprocAttr,ia,g2,g4,c0,c1,cB,cd]
 ·simp only[cd,cE,dL]at c0;simp only[ho];simp only[rM',aa,simprocAttr,ia,g2,g3,c0,cB,cd,cE]
theorem FR{T:cK}(yP:Std T 140 f140)(qS:Std T 145 f145)(oA:Std T 144 f144)(l:List jD)(hl:l.length<=2^30)(MR:∀v∈l,v.wf)(Q:Exit->St->Prop)(o:Option jD)
    (bS:∀fr hp nx,look fr 2=.ptr 0 0 0->look fr 4=.ptr 1 0 0->look fr 5=.pv (.bool o.isSome)->ah hp 0=.var (dL (cd cE))->ah hp 1=.var (dL (cd (o.getD cE)))->Q (.exit 0) ⟨fr,hp,nx⟩) :
    ∀(rest:List jD) (i:Nat) (acc:jD),l.drop i=rest->i<=l.length->acc.wf->gO acc rest=o->∀(fr:List (Nat×AV)) (hp:Hl) (nx:Nat),look fr 0=.pv (.slice (l.map cd))->look fr 2=.ptr 0 0 0->look fr 4=.ptr 1 0 0->look fr 5=.pv (.bool true) ->
     ah hp 0=.var (dL (cd cE))->ah hp 1=.var (dL (cd acc))->look fr 6=.pv (.int .i64 i)->Wp T false (.loop um) ⟨fr,hp,nx⟩ Q:=by
 intro rest;induction rest with
 |nil =>
  intro i acc hd hi ha ho fr hp nx h0 h2 h4 h5 b0 b1 h6;have hlen:=drop_nil hd hi;simp only[gO]at ho;subst ho;rw[az,aY um.eq_1];simp only[rM',aa,simprocAttr,h0,h5,h6,hlen,aP];refine bS _ _ _ ?_ ?_ ?_ b0 b1
  all_goals simp only[bH,Nat.reduceEqDiff,aJ,h2,h4,h5,Option.isSome_some]
 |cons v r ih =>
  intro i acc hd hi ha ho fr hp nx h0 h2 h4 h5 b0 b1 h6;obtain⟨aN,hlt,hw,dh,cW,hb⟩:=drop_cons hd hl;have hv:v.wf:=MR v (M1.2 ⟨i,aN⟩);have k:=Gn yP qS oA acc v ha hv;have Jq:=b0;have rE:=b1;simp only[cd,cE,dL]at Jq rE;simp only[cB,cd]at k;simp only[gO]at ho;rw[az,aY um.eq_1];simp only[rM',aa,simprocAttr,h0,h5,h6,hlt];refine(ef rfl).2 ?_;cases hs:pT acc v with
  |none =>
   rw[hs]at k ho;simp only[jL,cB,cd,cE]at k;subst ho;have hz:l.length=i+1\/((i+1:Nat):Int)<(l.length:Int):=by omega
   simp only[rM',aa,simprocAttr,h0,h2,h4,h5,Jq,rE,h6,aN,cd,k.cm,hw];rw[az,aY um.eq_1];rcases hz with hz|hz
   ·have Br:¬((i+1:Nat):Int)<(l.length:Int):=by omega
    simp only[rM',aa,simprocAttr,h0,Br];refine bS _ _ _ ?_ ?_ ?_ ?_ ?_
    all_goals simp only[bH,aD,Nat.reduceEqDiff,bz,aJ,h2,h4,b0,Option.isSome_none,ff,cd,cE,dL]
   ·simp only[rM',aa,simprocAttr,h0,hz];refine bS _ _ _ ?_ ?_ ?_ ?_ ?_
    all_goals simp only[bH,aD,Nat.reduceEqDiff,bz,aJ,h2,h4,b0,Option.isSome_none,ff,cd,cE,dL]
  |some n =>
   rw[hs]at k ho;simp only[jL,cB,cd]at k;simp only[rM',aa,simprocAttr,h0,h2,h4,h5,Jq,rE,h6,aN,cd,k.cm,hw];refine ih (i+1) n dh cW (Da ha hv hs) ho _ _ _ ?_ ?_ ?_ ?_ ?_ ?_ ?_
   all_goals simp only[bH,aD,Nat.reduceEqDiff,bz,aJ,h0,h2,h4,b0,cd,dL]
theorem L0{T:cK}(H9:Std T 143 f143)(yP:Std T 140 f140)(qS:Std T 145 f145)(oA:Std T 144 f144)(l:List jD)(hl:l.length<=2^30)(MR:∀v∈l,v.wf):ba T 143 [.slice (l.map cd)] (jL (gO cE l)):=by
 refine gives H9 rfl ?_;simp only[f143,rM',aa,simprocAttr];refine FR yP qS oA l hl MR _ (gO cE l) (fun fr hp nx g2 g4 g5 c0 c1=>?_) l 0 cE rfl (aO _) E5 rfl _ _ _ rfl rfl rfl rfl rfl rfl rfl;cases ho:gO cE l with
 |none =>
  rw[ho]at g5 c1;simp only[cd,cE,dL,ff,Option.isSome_none]at c0 c1 g5;simp only[rM',aa,simprocAttr,jL,g2,g4,g5,c0,c1,cB,cd,cE]
 |some v =>
  rw[ho]at g5 c1;simp only[cd,cE,dL,ic,Option.isSome_some]at c0 c1 g5;simp only[rM',aa,simprocAttr,jL,g2,g4,g5,c0,c1,cB,cd]
section
def zU(args:List AV)(hp:Hl)(nx:Nat):Option (AV×Hl×Nat) :=
 match args with
 |[.pv .dI,.iface 3 (.ptr k 0 0)]=>some (.pv (.bool false),hp,nx)
 |[.pv (.iface 0 (.int .i64 n)),.iface 3 (.ptr k 0 0)]=>match ah hp k with
  | .var [.pv (.int .i64 _)]=>some (.pv (.bool true),(k,.var [.pv (.int .i64 n)])::hp,nx)
  |_=>none
 |[.pv (.iface 1 (.gX [.int .i64 _,.int .i64 n] 0)),.iface 3 (.ptr k 0 0)]=>match ah hp k with
  | .var [.pv (.int .i64 _)]=>some (.pv (.bool true),(k,.var [.pv (.int .i64 n)])::hp,nx)
  |_=>none
 |_=>none
theorem Rel.Nc{X:Ctx}{M:Nat->Nat}{F:Fr}{hp:Hl}{nx:Nat}{a:Act}{w:World}(R:Rel X M F (ah hp) (fun i=>i<nx) a w){k:Nat}{o n:Int}(hb:ah hp k=.var [.pv (.int .i64 o)]) :
    Rel X M F (ah ((k,.var [.pv (.int .i64 n)])::hp)) (fun i=>i<nx) a (w.setCell ⟨M k,0,none⟩ (.int .i64 n)):=by
 have hB:=R.blk k;rw[hb]at hB;obtain⟨c,t,h1,h2,h3⟩:=hB;simp only[aB]at h1;have lI:c.size=1:=by simpa using h2
 rw[setCell_eq h1];have e:ah ((k,.var [.pv (.int .i64 n)])::hp)=wr (ah hp) [(k,.var [.pv (.int .i64 n)])]:=by
  funext i;rw[<-kX];rfl
 rw[e];have hlt:M k<w.heap.size:=(cf.1 h1).1;refine R.write _ _ k (by rw[hb];simp) (by simp) (by rw[hb];rfl) ?_ ?_
 ·simp only[World.shape?];rw[dB _ hlt,h1];simp
 ·refine⟨_,t,dB _ hlt,by simp[lI],?_⟩;simp only[mT,and_true];refine⟨.int .i64 n,?_,by simp[cN],by simp only[VA,VP]⟩;simp only[World.cell?,aB];rw[dB _ hlt];simp[lI]
theorem asP_raw{E:Env}{n:Nat}{g:Nat×Value}(pZ:E8 E n)(hg:g∈E.gl)
    (h1:∀(t:Value) (w:World),Calls E.P (E.ρ n) #[.nilIface,t] w fun e w'=>e=.returned (.bool false)/\w'=w)
    (h2:∀(t:Addr) (old:Value) (w:World) (m:Int),w.cell? ⟨g.1,0,none⟩=some g.2->w.cell? t=some old->w.frozen? t=false ->
     Calls E.P (E.ρ n) #[.iface (E.τ 0) (.int .i64 m),.iface (E.τ 3) (.pointer (some t))] w fun e w'=>e=.returned (.bool true)/\∃w1,Go.RowKit.Below w.heap.size w w1/\w'=w1.setCell t (.int .i64 m))
    (h3:∀(t:Addr) (old:Value) (w:World) (b o:Nat) (a m:Int),w.cell? ⟨b,o,none⟩=some (.int .i64 a)->w.cell? ⟨b,o+1,none⟩=some (.int .i64 m)->w.cell? ⟨g.1,0,none⟩=some g.2->w.cell? t=some old->w.frozen? t=false ->
     Calls E.P (E.ρ n) #[.iface (E.τ 1) (.pointer (some ⟨b,o,none⟩)),.iface (E.τ 3) (.pointer (some t))] w fun e w'=>e=.returned (.bool true)/\∃w1,Go.RowKit.Below w.heap.size w w1/\w'=w1.setCell t (.int .i64 m))
    (args:List AV) (hp:Hl) (nx:Nat) (v:AV) (hp':Hl) (cC:Nat) (h:zU args hp nx=some (v,hp',cC)):kl E n args hp nx v hp' cC:=by
 refine⟨pZ,fun X M F a w vs hX R hv=>?_⟩;subst hX;have hc:=(R.inv g hg).2;have fin:∀{k:Nat} {o m:Int},ah hp k=.var [.pv (.int .i64 o)]->v=.pv (.bool true)->hp'=(k,.var [.pv (.int .i64 m)])::hp->cC=nx->∀{e:Ending} {w':World},(e=.returned (.bool true)/\∃w1,Go.RowKit.Below w.heap.size w w1/\w'=w1.setCell ⟨M k,0,none⟩ (.int .i64 m)) ->
                                                                              ∃u M',e=.returned u/\Rel X M' F (ah hp') (fun i=>i<cC) a w'/\VA (aB X w' (fun i=>i<cC) M' (ah hp')) v u:=by
  rintro k o m hb rfl rfl rfl e w' ⟨rfl,w1,RJ,rfl⟩
  exact⟨_,M,rfl,(R.grown (AJ RJ)).Nc hb,by simp only[VA,VP]⟩
 have SG:∀{k:Nat} {o:Int} {u:Value},ah hp k=.var [.pv (.int .i64 o)]->VA (aB X w (fun i=>i<nx) M (ah hp)) (.ptr k 0 0) u ->
     u=.pointer (some ⟨M k,0,none⟩)/\(∃old,w.cell? ⟨M k,0,none⟩=some old)/\w.frozen? ⟨M k,0,none⟩=false:=by
  intro k o u hb hu;simp only[VA,aB]at hu;obtain⟨_,_,hu⟩:=hu;have e:=hu (0,0) (by rw[hb];rfl);have hB:=R.blk k;rw[hb]at hB;obtain⟨c,t,q1,q2,q3⟩:=hB;simp only[aB]at q1;have lI:c.size=1:=by simpa using q2
  simp only[mT,and_true]at q3;obtain⟨x,q4,_,_⟩:=q3;refine⟨by simpa using e,⟨x,q4⟩,?_⟩;simp only[World.frozen?,q1];simp
 unfold zU at h;split at h
 ·rename_i k;simp only[ai,aZ]at h;obtain⟨rfl,rfl,rfl⟩:=h;simp only[ed,VA,VP]at hv;obtain⟨_,_,rfl,rfl,u,_,rfl,_,rfl⟩:=hv;refine(h1 u w).mono fun e w' ⟨he,hw⟩=>?_;subst he hw;exact⟨_,M,rfl,R,by simp only[VA,VP]⟩
 ·rename_i m k;split at h
  ·rename_i o hb;simp only[ai,aZ]at h;obtain⟨rfl,rfl,rfl⟩:=h;simp only[ed]at hv;obtain⟨u1,_,rfl,Pm,u2,_,rfl,Pn,rfl⟩:=hv;simp only[VA,VP]at Pm;obtain⟨_,rfl,rfl⟩:=Pm;rw[VA]at Pn;obtain⟨u3,rfl,Sd⟩:=Pn;obtain⟨rfl,⟨old,c1⟩,c2⟩:=SG hb Sd;exact(h2 ⟨M k,0,none⟩ old w m hc c1 c2).mono fun e w' hh=>fin hb rfl rfl rfl hh
  ·simp at h
 ·rename_i a' m k;split at h
  ·rename_i o hb;simp only[ai,aZ]at h;obtain⟨rfl,rfl,rfl⟩:=h;simp only[ed]at hv;obtain⟨u1,_,rfl,Pm,u2,_,rfl,Pn,rfl⟩:=hv;simp only[VA,VP,iu]at Pm;obtain⟨_,rfl,b,o',rfl,_,⟨_,d1,_,rfl⟩,⟨_,d2,_,rfl⟩,_⟩:=Pm;rw[VA]at Pn;obtain⟨u3,rfl,Sd⟩:=Pn;obtain⟨rfl,⟨old,c1⟩,c2⟩:=SG hb Sd;exact(h3 ⟨M k,0,none⟩ old w b o' a' m d1 d2 hc c1 c2).mono fun e w' hh=>fin hb rfl rfl rfl hh
  ·simp at h
 ·simp at h
structure vV(T:cK)(n:Nat):Prop where
 fW:∃P,T.fW n=some P/\∀args hp nx r,zU args hp nx=some r->P args hp nx=some r
 raw:T.raw n=true
theorem PT{T:cK}{n:Nat}(h1:T.fW n=some zU)(h2:T.raw n=true):vV T n:=⟨⟨_,h1,fun _ _ _ _ h=>h⟩,h2⟩
theorem vV.d{T:cK}{n:Nat}(S:vV T n){args:List AV}{hp hp':Hl}{nx cC:Nat}{v:AV}(h:zU args hp nx=some (v,hp',cC)):D T n args hp nx=some (v,hp',cC):=by
 obtain⟨P,h1,h2⟩:=S.fW;exact iD h1 (h2 _ _ _ _ h)
section
variable{T:cK}{n:Nat}(S:vV T n)
include S
theorem tp{k:Nat}{d:Option Nat}{l:List aV}{st:St}{K:St->Prop} :
    iN T n [.pv .dI,.iface 3 (.ptr k 0 0)] d l st K↔tP T l ⟨dt st d (.pv (.bool false)),st.hp,st.nx⟩ K:=by
 have h:zU [.pv .dI,.iface 3 (.ptr k 0 0)] st.hp st.nx=some (.pv (.bool false),st.hp,st.nx):=by simp only[zU]
 unfold iN eO;simp only[S.raw,S.d h,ai];constructor
 ·rintro⟨bT,rfl,h⟩;exact h
 ·exact fun h=>⟨_,rfl,h⟩
theorem o8{k:Nat}{o m:Int}{d:Option Nat}{l:List aV}{st:St}{K:St->Prop}(hb:ah st.hp k=.var [.pv (.int .i64 o)]) :
    iN T n [.pv (.iface 0 (.int .i64 m)),.iface 3 (.ptr k 0 0)] d l st K↔tP T l ⟨dt st d (.pv (.bool true)),(k,.var [.pv (.int .i64 m)])::st.hp,st.nx⟩ K:=by
 have h:zU [.pv (.iface 0 (.int .i64 m)),.iface 3 (.ptr k 0 0)] st.hp st.nx=some (.pv (.bool true),(k,.var [.pv (.int .i64 m)])::st.hp,st.nx):=by simp only[zU,hb]
 unfold iN eO;simp only[S.raw,S.d h,ai];constructor
 ·rintro⟨bT,rfl,h⟩;exact h
 ·exact fun h=>⟨_,rfl,h⟩
theorem Gy{k:Nat}{o a m:Int}{d:Option Nat}{l:List aV}{st:St}{K:St->Prop}(hb:ah st.hp k=.var [.pv (.int .i64 o)]) :
    iN T n [.pv (.iface 1 (.gX [.int .i64 a,.int .i64 m] 0)),.iface 3 (.ptr k 0 0)] d l st K↔tP T l ⟨dt st d (.pv (.bool true)),(k,.var [.pv (.int .i64 m)])::st.hp,st.nx⟩ K:=by
 have h:zU [.pv (.iface 1 (.gX [.int .i64 a,.int .i64 m] 0)),.iface 3 (.ptr k 0 0)] st.hp st.nx=some (.pv (.bool true),(k,.var [.pv (.int .i64 m)])::st.hp,st.nx):=by simp only[zU,hb]
 unfold iN eO;simp only[S.raw,S.d h,ai];constructor
 ·rintro⟨bT,rfl,h⟩;exact h
 ·exact fun h=>⟨_,rfl,h⟩
end
end
section
section
variable{T:cK}
/-! ### Code,of T5 -/
/-! ### The uh search for a node -/
def iI(id:Int):Nat->List Node->Int
 |_,[]=> -1
 |i,p::r=>if p.id=id then i else iI id (i+1) r
theorem ik(id:Int):∀(l:List Node) (i:Nat),(dv id l=none/\iI id i l= -1)\/∃j p,l[j]? =some p/\dv id l=some p/\iI id i l=((i+j:Nat):Int)
 |[],i=>.inl ⟨rfl,rfl⟩
 |p::r,i=>by
  by_cases hp:p.id=id
  ·exact .inr ⟨0,p,rfl,by simp[dv,hp],by simp[iI,hp]⟩
  ·rcases ik id r (i+1)with⟨h1,h2⟩|⟨j,q,h1,h2,h3⟩
   ·exact .inl ⟨by simpa[dv,hp]using h1,by simp[iI,hp,h2]⟩
   ·refine .inr ⟨j+1,q,by simpa using h1,by simpa[dv,hp]using h2,?_⟩;simp only[iI,ar hp,h3];omega
theorem CC(s:bc)(id:Int)(hl:s.nodes.length<=2^30)(Q:Exit->St->Prop)(o:Int)
    (bS:o= -1->∀fr hp nx,Q (.exit 0) ⟨fr,hp,nx⟩) (dK:∀fr hp nx,look fr 4=.pv (.int .i64 o)->Q .ret ⟨fr,hp,nx⟩) :
    ∀(rest:List Node) (i:Nat),s.nodes.drop i=rest->i<=s.nodes.length->iI id i rest=o->∀(fr:List (Nat×AV)) (hp:Hl) (nx:Nat),look fr 5=.pv (.int .i64 i)->look fr 1=.pv (.int .i64 id)->look fr 2=.ptr 0 0 0 ->
     ah hp 0=.var [.pv (.slice (s.nodes.map bC)),.pv (.slice (s.aT.map bO)),.pv (.slice (s.pods.map aK))]->Wp T false (.loop xY) ⟨fr,hp,nx⟩ Q:=by
 intro rest;induction rest with
 |nil =>
  intro i hd hi ho fr hp nx h5 h1 h2 b0;have hlen:=drop_nil hd hi;rw[az,aY xY.eq_1];simp only[rM',aa,simprocAttr,h5,h1,h2,b0,hlen,aP];exact bS ho.symm _ _ _
 |cons n r ih =>
  intro i hd hi ho fr hp nx h5 h1 h2 b0;obtain⟨aN,hlt,hw,dh,cW,hb⟩:=drop_cons hd hl;simp only[iI]at ho;rw[az,aY xY.eq_1];by_cases hk:n.id=id
  ·rw[aW hk]at ho;simp only[rM',aa,simprocAttr,h5,h1,h2,b0,hlt,aN,bC,hk];exact dK _ _ _ (by simp only[bH,Nat.reduceEqDiff,bz,aJ,<-ho])
  ·rw[ar hk]at ho;simp only[rM',aa,simprocAttr,h5,h1,h2,b0,hlt,aN,bC,hk,hw];refine ih (i+1) dh cW ho _ _ _ ?_ ?_ ?_ b0
   all_goals simp only[bH,Nat.reduceEqDiff,bz,aJ,h1,h2]
theorem lz(oB:Std T 155 f155)(s:bc)(id:Int)(hl:s.nodes.length<=2^30):ba T 155 [aF s,.int .i64 id] (.int .i64 (iI id 0 s.nodes)):=by
 refine gives oB rfl ?_;simp only[f155,rM',aa,simprocAttr,aF];refine CC s id hl _ (iI id 0 s.nodes) (fun ho fr hp nx=>?_) (fun fr hp nx h4=>?_) s.nodes 0 rfl (aO _) rfl _ _ _ rfl rfl rfl rfl
 ·simp only[rM',aa,simprocAttr,ho]
 ·simp only[rM',aa,simprocAttr,h4]
/-! ### What is used -/
def reqs(node:Int):List dm->List jD
 |[]=>[]
 |p::r=>if p.node=node then p.jU::reqs node r else reqs node r
theorem zj(node:Int):∀l,(reqs node l).length<=l.length
 |[]=>ax _
 |p::r=>by
  have:=zj node r;simp only[reqs,ay];split
  ·simp only[ay];omega
  ·omega
theorem zk(node:Int):∀l:List dm,(∀p∈l,p.wf)->∀v∈reqs node l,v.wf
 |[],_,v,hv=>by simp[reqs]at hv
 |p::r,h,v,hv=>by
  have ih:=zk node r (fun q hq=>h q (bd _ hq)) v;simp only[reqs]at hv;split at hv
  ·rcases aQ.1 hv with rfl|hv
   ·exact(h p (bN ..)).2.2.2.1
   ·exact ih hv
  ·exact ih hv
def vJ(pods:List dm)(node:Int):Option jD:=gO cE (reqs node pods)
def Je(v:AV)(hp:Hl)(sz:Nat)(es:List (List PV))(lo nx:Nat):Prop:=(es=[]/\v=.bu)\/∃id,v=.ms id/\lo<=id/\id<nx/\ah hp id=.row sz es
theorem IA(pods:List dm)(node:Int)(hl:pods.length<=2^30)(Q:Exit->St->Prop)(gU:List jD)(MM:gU.length<=2^30)
    (bS:∀fr hp nx,look fr 4=.ptr 1 0 0->ah hp 1=.var (dL (cd cE))->Je (look fr 6) hp 4 (gU.map cd) 2 nx->Q (.exit 0) ⟨fr,hp,nx⟩) :
    ∀(rest:List dm) (i:Nat) (acc:List jD),pods.drop i=rest->i<=pods.length->acc++reqs node rest=gU->∀(fr:List (Nat×AV)) (hp:Hl) (nx:Nat),2<=nx->look fr 4=.ptr 1 0 0->ah hp 1=.var (dL (cd cE)) ->
     look fr 1=.pv (.int .i64 node)->look fr 10=.pv (.slice (pods.map aK))->look fr 11=.pv (.int .i64 pods.length)->look fr 12=.pv (.int .i64 i)->Je (look fr 6) hp 4 (acc.map cd) 2 nx->Wp T false (.loop yE) ⟨fr,hp,nx⟩ Q:=by
 intro rest;induction rest with
 |nil =>
  intro i acc hd hi ho fr hp nx hn h4 b1 h1 h10 h11 mS h6;have hlen:=drop_nil hd hi;simp only[reqs,bG]at ho;subst ho;rw[az,aY yE.eq_1];simp only[rM',aa,simprocAttr,h10,h11,mS,hlen,aP];refine bS _ _ _ ?_ b1 ?_
  all_goals simp only[bH,Nat.reduceEqDiff,aJ,h4,h6]
 |cons p r ih =>
  intro i acc hd hi ho fr hp nx hn h4 b1 h1 h10 h11 mS h6;obtain⟨aN,hlt,hw,dh,cW,hb⟩:=drop_cons hd hl;have n1:¬nx=1:=by omega
  simp only[reqs]at ho;rw[az,aY yE.eq_1];by_cases hk:p.node=node
  ·rw[aW hk]at ho;have wR:(acc++[p.jU])++reqs node r=gU:=by rw[<-ho];simp
   have hlen:acc.length+1<=2^30:=by
    have:=da List.length wR;simp at this;omega
   rcases h6 with⟨he,h6⟩|⟨id,h6,i1,i2,i3⟩
   ·have C7:acc=[]:=by simpa using he
    have n0:¬nx=0:=by omega
    subst C7;simp only[rM',aa,simprocAttr,h1,h10,h11,mS,hlt,aN,aK,n1,hk,h6,bt,dV,chunk,fR,eQ,cn,bL,bV,hw,Nat.one_le_two_pow];refine ih (i+1) _ dh cW wR _ _ _ ?_ ?_ ?_ ?_ ?_ ?_ ?_ (.inr ⟨nx+2,?_,?_,?_,?_⟩)
    all_goals try simp only[bH,aD,Nat.reduceEqDiff,bz,aJ,h4,b1,n0,n1,h1,h10,h11,bh,aX,aC,cd,aE]
    all_goals first|omega|skip
   ·have d1:¬nx+1=id:=by omega
    have d2:¬nx=id:=by omega
    have d3:¬id=1:=by omega
    have d4:¬nx+1=1:=by omega
    have d5:¬nx+1+1=1:=by omega
    have d6:¬id=nx+1+1:=by omega
    simp only[rM',aa,simprocAttr,h1,h10,h11,mS,hlt,aN,aK,n1,hk,h6,i3,bt,dV,chunk,fR,eQ,cn,bL,bV,hw,d1,d2,hlen];refine ih (i+1) _ dh cW wR _ _ _ ?_ ?_ ?_ ?_ ?_ ?_ ?_ (.inr ⟨nx+1+1,?_,?_,?_,?_⟩)
    all_goals try simp only[bH,aD,Nat.reduceEqDiff,bz,aJ,h4,b1,n1,d3,d4,d5,d6,h1,h10,h11,bh,aX,aC,cd]
    all_goals first|omega|skip
  ·rw[ar hk]at ho;simp only[rM',aa,simprocAttr,h1,h10,h11,mS,hlt,aN,aK,n1,hk,hw];refine ih (i+1) acc dh cW ho _ _ _ (by omega) ?_ ?_ ?_ ?_ ?_ ?_ ?_
   all_goals simp only[bH,aD,Nat.reduceEqDiff,bz,aJ,h4,b1,h1,h10,h11,n1]
   rcases h6 with⟨he,h6⟩|⟨id,h6,i1,i2,i3⟩
   ·exact .inl ⟨he,h6⟩
   ·have:¬nx=id:=by omega
    exact .inr ⟨id,h6,i1,by omega,by simp only[aD,this,aJ,i3]⟩
theorem ER(o:Option jD):ld (ia o)=true:=by cases o <;>rfl
theorem EP(o:Option jD):ld (jL o)=true:=by cases o <;>rfl
theorem Nj(Mm:Std T 221 f221)(S:Jg T)(hf:T.flat 260=true)(t:State)(node:Int)(hl:t.pods.length<=2^30)(hw:∀p∈t.pods,p.wf):ba T 221 [aw t,.int .i64 node] (ia (vJ t.pods node)):=by
 refine gives Mm rfl ?_;have hr:(reqs node t.pods).length<=2^30:=cG (zj _ _) hl;have k:=Ng S (reqs node t.pods) hr (zk node t.pods hw);have e:gO cE (reqs node t.pods)=vJ t.pods node:=rfl;rw[e]at k;have kf:=k.sF hf (ER _);simp only[f221,rM',aa,simprocAttr,aw];refine IA t.pods node hl _ (reqs node t.pods) hr (fun fr hp nx h4 b1 h6=>?_) t.pods 0 [] rfl (aO _) (aE _) _ _ _ (ax _) rfl rfl rfl rfl rfl rfl (.inl ⟨rfl,rfl⟩);simp only[cd,cE,dL]at b1;rcases h6 with⟨he,h6⟩|⟨id,h6,i1,i2,i3⟩
 ·rw[he]at k;cases ho:vJ t.pods node <;>rw[ho]at k <;>simp only[ia,cB,cd,cE,ct]at k <;>
  simp only[rM',aa,simprocAttr,h4,b1,h6,k.call,ia,cB,cd,cE,ct]
 ·cases ho:vJ t.pods node <;>rw[ho]at kf <;>simp only[ia,cB,cd,cE,ct]at kf <;>
  simp only[rM',aa,simprocAttr,h4,b1,h6,i3,kf,ia,cB,cd,cE,ct]
theorem FV(t:State)(node:Int)(hl:t.pods.length<=2^30)(Q:Exit->St->Prop)(gU:List jD)(MM:gU.length<=2^30)
    (bS:∀fr hp nx,look fr 4=.ptr 1 0 0->2<=nx->ah hp 1=.var (dL (cd cE))->Je (look fr 6) hp 4 (gU.map cd) 2 nx->Q (.exit 0) ⟨fr,hp,nx⟩) :
    ∀(rest:List dm) (i:Nat) (acc:List jD),t.pods.drop i=rest->i<=t.pods.length->acc++reqs node rest=gU->∀(fr:List (Nat×AV)) (hp:Hl) (nx:Nat),2<=nx->look fr 4=.ptr 1 0 0->ah hp 1=.var (dL (cd cE)) ->
     look fr 1=.pv (.int .i64 node)->look fr 2=.ptr 0 0 0->ah hp 0=.var [.pv (.slice (t.pods.map aK)),.pv (.int .i64 t.pre),.pv (.int .i64 t.fe)]->look fr 7=.pv (.int .i64 i)->Je (look fr 6) hp 4 (acc.map cd) 2 nx->Wp T false (.loop ya) ⟨fr,hp,nx⟩ Q:=by
 intro rest;induction rest with
 |nil =>
  intro i acc hd hi ho fr hp nx hn h4 b1 h1 h2 b0 h7 h6;have hlen:=drop_nil hd hi;simp only[reqs,bG]at ho;subst ho;rw[az,aY ya.eq_1];simp only[rM',aa,simprocAttr,h2,b0,h7,hlen,aP];refine bS _ _ _ ?_ hn b1 ?_
  all_goals simp only[bH,Nat.reduceEqDiff,aJ,h4,h6]
 |cons p r ih =>
  intro i acc hd hi ho fr hp nx hn h4 b1 h1 h2 b0 h7 h6;obtain⟨aN,hlt,hw,dh,cW,hb⟩:=drop_cons hd hl;have n0:¬nx=0:=by omega
  have n1:¬nx=1:=by omega
  have m0:¬nx+1=0:=by omega
  have m1:¬nx+1=1:=by omega
  simp only[reqs]at ho;rw[az,aY ya.eq_1];by_cases hk:p.node=node
  ·rw[aW hk]at ho;have wR:(acc++[p.jU])++reqs node r=gU:=by rw[<-ho];simp
   have hlen:acc.length+1<=2^30:=by
    have:=da List.length wR;simp at this;omega
   rcases h6 with⟨he,h6⟩|⟨id,h6,i1,i2,i3⟩
   ·have C7:acc=[]:=by simpa using he
    subst C7;simp only[rM',aa,simprocAttr,h1,h2,b0,h7,hlt,aN,aK,n0,n1,hk,h6,bt,dV,chunk,fR,eQ,cn,bL,bV,hw,Nat.one_le_two_pow];refine ih (i+1) _ dh cW wR _ _ _ ?_ ?_ ?_ ?_ ?_ ?_ ?_ (.inr ⟨nx+1,?_,?_,?_,?_⟩)
    all_goals try simp only[bH,aD,Nat.reduceEqDiff,bz,aJ,h4,b1,n0,n1,m0,m1,h1,h2,b0,bh,aX,aC,cd,aE]
    all_goals first|omega|skip
   ·have d2:¬nx=id:=by omega
    have d3:¬id=1:=by omega
    have d6:¬id=nx+1:=by omega
    have d7:¬id=0:=by omega
    simp only[rM',aa,simprocAttr,h1,h2,b0,h7,hlt,aN,aK,n0,n1,hk,h6,i3,bt,dV,chunk,fR,eQ,cn,bL,bV,hw,d2,hlen];refine ih (i+1) _ dh cW wR _ _ _ ?_ ?_ ?_ ?_ ?_ ?_ ?_ (.inr ⟨nx+1,?_,?_,?_,?_⟩)
    all_goals try simp only[bH,aD,Nat.reduceEqDiff,bz,aJ,h4,b1,b0,n0,n1,d3,m0,m1,d6,d7,h1,h2,bh,aX,aC,cd]
    all_goals first|omega|skip
  ·rw[ar hk]at ho;simp only[rM',aa,simprocAttr,h1,h2,b0,h7,hlt,aN,aK,n1,hk,hw];refine ih (i+1) acc dh cW ho _ _ _ hn ?_ b1 ?_ ?_ b0 ?_ ?_
   all_goals simp only[bH,Nat.reduceEqDiff,bz,aJ,h4,h1,h2,h6]
theorem L2(Mk:Std T 171 f171)(H9:Std T 143 f143)(yP:Std T 140 f140)(qS:Std T 145 f145)(oA:Std T 144 f144)(hf:T.flat 143=true)(t:State)(node:Int)(hl:t.pods.length<=2^30)(hw:∀p∈t.pods,p.wf):ba T 171 [aw t,.int .i64 node] (jL (vJ t.pods node)):=by
 refine gives Mk rfl ?_;have hr:(reqs node t.pods).length<=2^30:=cG (zj _ _) hl;have k:=L0 H9 yP qS oA (reqs node t.pods) hr (zk node t.pods hw);have e:gO cE (reqs node t.pods)=vJ t.pods node:=rfl;rw[e]at k;have kf:=k.sF hf (EP _);simp only[f171,rM',aa,simprocAttr,aw];refine FV t node hl _ (reqs node t.pods) hr (fun fr hp nx h4 hn b1 h6=>?_) t.pods 0 [] rfl (aO _) (aE _) _ _ _ (ax _) rfl rfl rfl rfl rfl rfl (.inl ⟨rfl,rfl⟩);have n1:¬nx=1:=by omega
 simp only[cd,cE,dL]at b1;rcases h6 with⟨he,h6⟩|⟨id,h6,i1,i2,i3⟩
 ·rw[he]at k;cases ho:vJ t.pods node <;>rw[ho]at k <;>simp only[jL,cB,cd,cE]at k <;>
  simp only[rM',aa,simprocAttr,h4,b1,h6,k.call,jL,cB,cd,cE,n1]
 ·cases ho:vJ t.pods node <;>rw[ho]at kf <;>simp only[jL,cB,cd,cE]at kf <;>
  simp only[rM',aa,simprocAttr,h4,b1,h6,i3,kf,jL,cB,cd,cE,n1]
end
end
section
section
variable{T:cK}
def oO(s:bc)(pods:List dm)(id:Int):Int×jD:=match dv id s.nodes with
 |none=>(4,cE)
 |some n=>match vJ pods id with
  |none=>(8,cE)
  |some u=>match nN n.cap n.held with
   |none=>(9,cE)
   |some f=>match nN f u with
    |none=>(9,cE)
    |some r=>(0,r)
def jH(c:Int):PV:=if c=0 then .dI else ct c
def vr(r:Int×jD):PV:=.tuple [cB r.2,jH r.1]
def vq(r:Int×jD):PV:=.tuple [cB r.2,.int .i64 r.1]
structure Jf(T:cK):Prop where
 v:Jg T
 K5:Std T 82 f82
 Mm:Std T 221 f221
 EZ:Std T 258 f258
 yQ:Std T 259 f259
 Rq:Std T 220 f220
 f260:T.flat 260=true
set_option maxRecDepth 100000 in
set_option maxHeartbeats 4000000 in
theorem KU(S:Jf T)(s:bc)(t:State)(id:Int)(hn:s.nodes.length<=2^30)(hl:t.pods.length<=2^30)(hw:∀p∈t.pods,p.wf):ba T 220 [aF s,aw t,.int .i64 id] (vr (oO s t.pods id)):=by
 refine gives S.Rq rfl ?_;have kn:=tA S.K5 s id hn;have ku:=Nj S.Mm S.v S.f260 t id hl hw;unfold oO;simp only[aF]at kn;simp only[aw]at ku;cases ho:dv id s.nodes with
 |none =>
  rw[ho]at kn;simp only[jZ,bC,mN]at kn;simp only[f220,rM',aa,simprocAttr,aF,aw,kn.call,vr,jH,cB,cd,cE,ct]
 |some n =>
  rw[ho]at kn;simp only[jZ,bC]at kn;cases hu:vJ t.pods id with
  |none =>
   rw[hu]at ku;simp only[ia,cB,cd,cE,ct]at ku;simp only[f220,rM',aa,simprocAttr,aF,aw,kn.call,ku.call,vr,jH,cB,cd,cE,ct]
  |some u =>
   rw[hu]at ku;simp only[ia,cB,cd]at ku;have k1:=CW S.EZ S.v.yR S.yQ n.cap n.held;simp only[cB,cd]at k1;cases h1:nN n.cap n.held with
   |none =>
    rw[h1]at k1;simp only[ia,cB,cd,cE,ct]at k1;simp only[f220,rM',aa,simprocAttr,aF,aw,kn.call,ku.call,k1.call,h1,vr,jH,cB,cd,cE,ct]
   |some f =>
    rw[h1]at k1;simp only[ia,cB,cd]at k1;have k2:=CW S.EZ S.v.yR S.yQ f u;simp only[cB,cd]at k2;cases h2:nN f u with
    |none =>
     rw[h2]at k2;simp only[ia,cB,cd,cE,ct]at k2;simp only[f220,rM',aa,simprocAttr,aF,aw,kn.call,ku.call,k1.call,k2.call,h1,h2,vr,jH,cB,cd,cE,ct]
    |some r =>
     rw[h2]at k2;simp only[ia,cB,cd]at k2;simp only[f220,rM',aa,simprocAttr,aF,aw,kn.call,ku.call,k1.call,k2.call,h1,h2,vr,jH,cB,cd,cE,ct]
structure D4(T:cK):Prop where
 oB:Std T 155 f155
 Mk:Std T 171 f171
 H9:Std T 143 f143
 yP:Std T 140 f140
 qS:Std T 145 f145
 oA:Std T 144 f144
 JP:Std T 142 f142
 Ao:Std T 141 f141
 Re:Std T 170 f170
 f143:T.flat 143=true
set_option maxRecDepth 100000 in
set_option maxHeartbeats 4000000 in
theorem Ik(S:D4 T)(s:bc)(t:State)(id:Int)(hn:s.nodes.length<=2^30)(hl:t.pods.length<=2^30)(hw:∀p∈t.pods,p.wf):ba T 170 [aF s,aw t,.int .i64 id] (vq (oO s t.pods id)):=by
 refine gives S.Re rfl ?_;have kn:=lz S.oB s id hn;have ku:=L2 S.Mk S.H9 S.yP S.qS S.oA S.f143 t id hl hw;unfold oO;simp only[aF]at kn;simp only[aw]at ku;rcases ik id s.nodes 0 with⟨ho,hx⟩|⟨j,n,hj,ho,hx⟩
 ·rw[hx]at kn;simp only[f170,rM',aa,simprocAttr,aF,aw,kn.call,ho,vq,cB,cd,cE]
 ·rw[hx,aM]at kn;have lP:¬(j:Int)<0:=by omega
  cases hu:vJ t.pods id with
  |none =>
   rw[hu]at ku;simp only[jL,cB,cd,cE]at ku;simp only[f170,rM',aa,simprocAttr,aF,aw,kn.call,ho,lP,ku.call,vq,cB,cd,cE]
  |some u =>
   rw[hu]at ku;simp only[jL,cB,cd]at ku;have k1:=Bf S.JP S.Ao n.cap n.held;simp only[cB,cd]at k1;simp only[f170,rM',aa,simprocAttr,aF,aw,kn.call,ho,lP,ku.call];refine tl.2 ?_;cases h1:nN n.cap n.held with
   |none =>
    rw[h1]at k1;simp only[jL,cB,cd,cE]at k1;simp only[rM',aa,simprocAttr,hj,bC,k1.iM,h1,vq,cB,cd,cE];simp only[eC,kV,il,j0,mem,iG,En.reads,fq,im,gV,kU,mI,AO.tmps,fB,keys,kF,iJ,cu,cz,cF,aE,aI,bG,rM',aa,simprocAttr,bB,bq];rfl
   |some f =>
    rw[h1]at k1;simp only[jL,cB,cd]at k1;have k2:=Bf S.JP S.Ao f u;simp only[cB,cd]at k2;cases h2:nN f u with
    |none =>
     rw[h2]at k2;simp only[jL,cB,cd,cE]at k2;simp only[rM',aa,simprocAttr,hj,bC,k1.iM,k2.call,h1,h2,vq,cB,cd,cE];simp only[eC,kV,il,j0,mem,iG,En.reads,fq,im,gV,kU,mI,AO.tmps,fB,keys,kF,iJ,cu,cz,cF,aE,aI,bG,rM',aa,simprocAttr,bB,bq];rfl
    |some r =>
     rw[h2]at k2;simp only[jL,cB,cd]at k2;simp only[rM',aa,simprocAttr,hj,bC,k1.iM,k2.call,h1,h2,vq,cB,cd,cE];simp only[eC,kV,il,j0,mem,iG,En.reads,fq,im,gV,kU,mI,AO.tmps,fB,keys,kF,iJ,cu,cz,cF,aE,aI,bG,rM',aa,simprocAttr,bB,bq];rfl
theorem oP(s:bc)(pods:List dm)(id:Int):(oO s pods id).1=0\/((oO s pods id).1≠0/\1<=(oO s pods id).1/\(oO s pods id).1<=17):=by
 unfold oO
 repeat' split
 all_goals simp
def dR(s:bc)(pods:List dm):Nat->List Node->Option (Int×Int)
 |_,[]=>none
 |i,n::r=>if(oO s pods n.id).1=0 then dR s pods (i+1) r else some ((oO s pods n.id).1,i)
set_option maxRecDepth 100000 in
set_option maxHeartbeats 4000000 in
theorem FI(S:Jf T)(EY:Std T 219 f219)(At:vV T 266)(s:bc)(t:State)(hn:s.nodes.length<=2^30)(hl:t.pods.length<=2^30)(hw:∀p∈t.pods,p.wf)(Q:Exit->St->Prop)(o:Option (Int×Int))
    (bS:o=none->∀fr hp nx,Q (.exit 0) ⟨fr,hp,nx⟩)
    (dK:∀c i,o=some (c,i)->∀fr hp nx id,look fr 4=.iface 1 (.ptr id 0 0)->ah hp id=.var [.pv (.int .i64 i),.pv (.int .i64 c)]->Q .ret ⟨fr,hp,nx⟩) :
    ∀(rest:List Node) (i:Nat),s.nodes.drop i=rest->i<=s.nodes.length->dR s t.pods i rest=o->∀(fr:List (Nat×AV)) (hp:Hl) (nx:Nat),2<=nx ->
     look fr 2=.ptr 0 0 0->ah hp 0=.var [.pv (.slice (s.nodes.map bC)),.pv (.slice (s.aT.map bO)),.pv (.slice (s.pods.map aK))] ->
     look fr 3=.ptr 1 0 0->ah hp 1=.var [.pv (.slice (t.pods.map aK)),.pv (.int .i64 t.pre),.pv (.int .i64 t.fe)] ->
     look fr 11=.pv (.slice (s.nodes.map bC))->look fr 12=.pv (.int .i64 s.nodes.length)->look fr 13=.pv (.int .i64 i)->Wp T false (.loop yD) ⟨fr,hp,nx⟩ Q:=by
 intro rest;induction rest with
 |nil =>
  intro i hd hi ho fr hp nx ie h2 b0 h3 b1 h11 mS pj;have hlen:=drop_nil hd hi;rw[az,aY yD.eq_1];simp only[rM',aa,simprocAttr,h11,mS,pj,hlen,aP];exact bS ho.symm _ _ _
 |cons n r ih =>
  intro i hd hi ho fr hp nx ie h2 b0 h3 b1 h11 mS pj;obtain⟨aN,hlt,Sg,dh,cW,hb⟩:=drop_cons hd hn;have n0:¬nx=0:=by omega
  have n1:¬nx=1:=by omega
  have m0:¬nx+1=0:=by omega
  have m1:¬nx+1=1:=by omega
  have k:=KU S s t n.id hn hl hw;simp only[aF,aw,vr,cB,cd]at k;simp only[dR]at ho;rw[az,aY yD.eq_1];rcases oP s t.pods n.id with hc|⟨hc,_,_⟩
  ·rw[aW hc]at ho;simp only[jH,hc,bz]at k;simp only[rM',aa,simprocAttr,h2,b0,h3,b1,h11,mS,pj,hlt,aN,bC,n0,n1,k.call,tp At,Sg];refine ih (i+1) dh cW ho _ _ _ ?_ ?_ ?_ ?_ ?_ ?_ ?_ ?_
   all_goals try simp only[bH,aD,Nat.reduceEqDiff,bz,aJ,h2,b0,h3,b1,n0,n1,m0,m1,h11,mS]
   all_goals first|omega|skip
  ·rw[ar hc]at ho;simp only[jH,hc,aJ,ct]at k;simp only[rM',aa,simprocAttr,h2,b0,h3,b1,h11,mS,pj,hlt,aN,bC,n0,n1,k.call];refine(o8 At (o:=0) ?_).2 ?_
   ·simp only[rM',aa,simprocAttr]
   ·simp only[rM',aa,simprocAttr,h2,b0,h3,b1,h11,mS,pj];refine dK _ _ ho.symm _ _ _ (nx+1+1+1) ?_ ?_
    all_goals simp only[bH,aD,Nat.reduceEqDiff,bz,aJ]
theorem KW(S:Jf T)(EY:Std T 219 f219)(At:vV T 266)(s:bc)(t:State)(hn:s.nodes.length<=2^30)(hl:t.pods.length<=2^30)(hw:∀p∈t.pods,p.wf):ba T 219 [aF s,aw t] (mj (dR s t.pods 0 s.nodes)):=by
 refine gives EY rfl ?_;simp only[f219,rM',aa,simprocAttr,aF,aw];refine FI S EY At s t hn hl hw _ (dR s t.pods 0 s.nodes) (fun ho fr hp nx=>?_) (fun c i ho fr hp nx id h4 hb=>?_) s.nodes 0 rfl (aO _) rfl _ _ _ (ax _) rfl rfl rfl rfl rfl rfl rfl
 ·simp only[rM',aa,simprocAttr,ho,mj]
 ·simp only[rM',aa,simprocAttr,ho,mj,h4,hb,ix]
set_option maxRecDepth 100000 in
set_option maxHeartbeats 4000000 in
theorem CK(S:D4 T)(s:bc)(t:State)(hn:s.nodes.length<=2^30)(hl:t.pods.length<=2^30)(hw:∀p∈t.pods,p.wf)(Q:Exit->St->Prop)(o:Option (Int×Int))
    (bS:o=none->∀fr hp nx,Q (.exit 0) ⟨fr,hp,nx⟩)
    (dK:∀c i,o=some (c,i)->∀fr hp nx,look fr 4=.pv (.int .i64 c)->look fr 5=.pv (.int .i64 i)->Q .ret ⟨fr,hp,nx⟩) :
    ∀(rest:List Node) (i:Nat),s.nodes.drop i=rest->i<=s.nodes.length->dR s t.pods i rest=o->∀(fr:List (Nat×AV)) (hp:Hl) (nx:Nat),2<=nx ->
     look fr 2=.ptr 0 0 0->ah hp 0=.var [.pv (.slice (s.nodes.map bC)),.pv (.slice (s.aT.map bO)),.pv (.slice (s.pods.map aK))] ->
     look fr 3=.ptr 1 0 0->ah hp 1=.var [.pv (.slice (t.pods.map aK)),.pv (.int .i64 t.pre),.pv (.int .i64 t.fe)] ->
     look fr 6=.pv (.int .i64 i)->Wp T false (.loop y9) ⟨fr,hp,nx⟩ Q:=by
 intro rest;induction rest with
 |nil =>
  intro i hd hi ho fr hp nx ie h2 b0 h3 b1 h6;have hlen:=drop_nil hd hi;rw[az,aY y9.eq_1];simp only[rM',aa,simprocAttr,h2,b0,h6,hlen,aP];exact bS ho.symm _ _ _
 |cons n r ih =>
  intro i hd hi ho fr hp nx ie h2 b0 h3 b1 h6;obtain⟨aN,hlt,Sg,dh,cW,hb⟩:=drop_cons hd hn;have n0:¬nx=0:=by omega
  have n1:¬nx=1:=by omega
  have k:=Ik S s t n.id hn hl hw;simp only[aF,aw,vq,cB,cd]at k;simp only[dR]at ho;rw[az,aY y9.eq_1];simp only[rM',aa,simprocAttr,h2,b0,h6,hlt];refine tl.2 ?_;rcases oP s t.pods n.id with hc|⟨hc,_,_⟩
  ·rw[aW hc]at ho;simp only[hc]at k;simp only[rM',aa,simprocAttr,h2,b0,h3,b1,h6,aN,bC,k.iM,Sg];refine⟨?_,ih (i+1) dh cW ho _ _ _ ?_ ?_ ?_ ?_ ?_ ?_⟩
   ·simp only[eC,kV,il,j0,mem,iG,En.reads,fq,im,gV,kU,mI,AO.tmps,fB,keys,kF,iJ,cu,cz,cF,aE,aI,bG,rM',aa,simprocAttr,bB,bq,h2,h3,n0,n1,ne_comm];rfl
   all_goals try simp only[bH,aD,Nat.reduceEqDiff,bz,aJ,h2,b0,h3,b1,n0,n1]
   all_goals first|omega|skip
  ·rw[ar hc]at ho;simp only[rM',aa,simprocAttr,h2,b0,h3,b1,h6,aN,bC,k.iM,hc];refine⟨?_,dK _ _ ho.symm _ _ _ ?_ ?_⟩
   ·simp only[eC,kV,il,j0,mem,iG,En.reads,fq,im,gV,kU,mI,AO.tmps,fB,keys,kF,iJ,cu,cz,cF,aE,aI,bG,rM',aa,simprocAttr,bB,bq,h2,h3,n0,n1,ne_comm];rfl
   all_goals simp only[bH,aD,Nat.reduceEqDiff,bz,aJ]
theorem Il(S:D4 T)(JQ:Std T 169 f169)(s:bc)(t:State)(hn:s.nodes.length<=2^30)(hl:t.pods.length<=2^30)(hw:∀p∈t.pods,p.wf):ba T 169 [aF s,aw t] (jO (dR s t.pods 0 s.nodes)):=by
 refine gives JQ rfl ?_;simp only[f169,rM',aa,simprocAttr,aF,aw];refine CK S s t hn hl hw _ (dR s t.pods 0 s.nodes) (fun ho fr hp nx=>?_) (fun c i ho fr hp nx h4 h5=>?_) s.nodes 0 rfl (aO _) rfl _ _ _ (ax _) rfl rfl rfl rfl rfl
 ·simp only[rM',aa,simprocAttr,ho,jO]
 ·simp only[rM',aa,simprocAttr,ho,jO,h4,h5]
end
end
def f222:bf:=⟨12,[.t 6],
(.seq (.ops [
df 3 0 [],
df 4 1 [],
df 5 2 [],
fV 6 false []])
(.seq (.ops [
ck 7 3 3 [],
ck 8 3 4 [],
ck 9 3 5 [],
aR 10 (.call 223 [.t 7,.t 8,.t 9]) [0,1,2],
aR 11 (.bin .eql (some (.iface true)) (.t 10) (.c (.pv .dI))) [3],
aq 6 11 [4,3,0,1,2,3,4]])
.ret))⟩
def uC:bx :=
(.seq (.ops [
cM 15 .lss 14 5 []])
(.seq (.cond (.t 15)
.skip
(.exit 0))
(.seq (.block 1
(.seq (.ops [
aR 16 (.uS false 5 1 (.t 13) (.t 14)) [],
aq 8 16 [0,0]])
(.seq (.ops [
aq 17 8 [],
aR 18 (.fK (.t 17) []) [0],
aq 9 18 [1,1,0,1]])
(.seq (.ops [
aq 19 9 [],
aR 20 (.bin .neq (some (.iface true)) (.t 19) (.c (.pv .dI))) [0]])
(.cond (.t 20)
(.seq (.ops [
aq 21 9 [],
aq 6 21 [0,0]])
.ret)
.skip)))))
(.ops [
cM 22 .add 14 1 [],
aq 14 22 [0]]))))
def f223:bf:=⟨23,[.t 6],
(.seq (.ops [
df 3 0 [],
df 4 1 [],
df 5 2 [],
jo 6 []])
(.seq (.seq (.ops [
ck 10 3 3 [],
ck 11 3 4 [],
ck 12 3 5 [],
aR 13 (.call 224 [.t 10,.t 11,.t 12]) [0,1,2],
cR 14 0 []])
(.block 0
(.loop uC)))
(.seq (.ops [
jo 6 []])
.ret)))⟩
def f224:bf:=⟨13,[.cell 6 true 5],
(.seq (.ops [
df 3 0 [],
df 4 1 [],
df 5 2 [],
aR 6 (.alloc [.pv .nw,.pv .nw,.pv .nw,.pv .nw,.pv .nw]) []])
(.seq (.ops [
aR 7 (.xa 225 [] [.t 3,.t 5]) [],
aR 8 (.xa 226 [] [.t 3,.t 5]) [],
aR 9 (.xa 227 [] [.t 3,.t 5]) [],
aR 10 (.xa 228 [] [.t 3,.t 5]) [],
aR 11 (.xa 229 [] [.t 4,.t 5]) [],
aR 12 (.build [.pv .nw,.pv .nw,.pv .nw,.pv .nw,.pv .nw] [(0,1,(.t 7)),(1,1,(.t 8)),(2,1,(.t 9)),(3,1,(.t 10)),(4,1,(.t 11))]) [0,1,2,3,4],
dk 5 6 12 [5,0,1,2,3,4,5]])
.ret))⟩
def f225:bf:=⟨6,[.t 2],
(.seq (.ops [
jo 2 []])
(.seq (.ops [
ck 3 3 0 [],
ck 4 3 1 [],
aR 5 (.call 219 [.t 3,.t 4]) [0,1],
aq 2 5 [2,2,0,1,2]])
.ret))⟩
def f226:bf:=⟨6,[.t 2],
(.seq (.ops [
jo 2 []])
(.seq (.ops [
ck 3 3 0 [],
ck 4 3 1 [],
aR 5 (.call 68 [.t 3,.t 4]) [0,1],
aq 2 5 [2,2,0,1,2]])
.ret))⟩
def f227:bf:=⟨6,[.t 2],
(.seq (.ops [
jo 2 []])
(.seq (.ops [
ck 3 3 0 [],
ck 4 3 1 [],
aR 5 (.call 234 [.t 3,.t 4]) [0,1],
aq 2 5 [2,2,0,1,2]])
.ret))⟩
def f228:bf:=⟨6,[.t 2],
(.seq (.ops [
jo 2 []])
(.seq (.ops [
ck 3 3 0 [],
ck 4 3 1 [],
aR 5 (.call 70 [.t 3,.t 4]) [0,1],
aq 2 5 [2,2,0,1,2]])
.ret))⟩
def f229:bf:=⟨6,[.t 2],
(.seq (.ops [
jo 2 []])
(.seq (.ops [
ck 3 3 0 [],
ck 4 3 1 [],
aR 5 (.call 72 [.t 3,.t 4]) [0,1],
aq 2 5 [2,2,0,1,2]])
.ret))⟩
section
/-! ### The PS Check -/
def dw(s:bc)(pods:List dm):Nat->List fF->Option (Int×Int)
 |_,[]=>none
 |i,l::r=>if 0<l.sq/\l.sq<vA s l.id pods then some (11,i)else dw s pods (i+1) r
section
variable{T:cK}
theorem Bd(S:Bu T)(s:bc)(t:State)(hn:s.nodes.length<=2^29)(hl:t.pods.length<=2^29)(nY:s.aT.length<=2^29)(Q:Exit->St->Prop)(o:Option (Int×Int))
    (bS:o=none->∀fr hp nx,Q (.exit 0) ⟨fr,hp,nx⟩)
    (dK:∀c i,o=some (c,i)->∀fr hp nx id,look fr 4=.iface 1 (.ptr id 0 0)->ah hp id=.var [.pv (.int .i64 i),.pv (.int .i64 c)]->Q .ret ⟨fr,hp,nx⟩) :
    ∀(rest:List fF) (i:Nat),s.aT.drop i=rest->i<=s.aT.length->dw s t.pods i rest=o->∀(fr:List (Nat×AV)) (hp:Hl) (nx:Nat),2<=nx ->
     look fr 2=.ptr 0 0 0->look fr 3=.ptr 1 0 0->ah hp 0=.var [.pv (.slice (s.nodes.map bC)),.pv (.slice (s.aT.map bO)),.pv (.slice (s.pods.map aK))] ->
     ah hp 1=.var [.pv (.slice (t.pods.map aK)),.pv (.int .i64 t.pre),.pv (.int .i64 t.fe)] ->
     look fr 8=.pv (.slice (s.aT.map bO))->look fr 9=.pv (.int .i64 s.aT.length)->look fr 10=.pv (.int .i64 i)->Wp T false (.loop yF) ⟨fr,hp,nx⟩ Q:=by
 intro rest;induction rest with
 |nil =>
  intro i hd hi ho fr hp nx ie h2 h3 b0 b1 h8 h9 h10;have hlen:=drop_nil hd hi;rw[az,aY yF.eq_1];simp only[rL',aa,simprocAttr,h8,h9,h10,hlen,aP];exact bS ho.symm _ _ _
 |cons l r ih =>
  intro i hd hi ho fr hp nx ie h2 h3 b0 b1 h8 h9 h10;obtain⟨aN,hlt,hw,dh,cW,hb⟩:=drop_cons hd (by omega);have n0:¬nx=0:=by omega
  have n1:¬nx=1:=by omega
  have k:=Ir S s t l.id hn hl;simp only[aF,aw]at k;simp only[dw]at ho;rw[az,aY yF.eq_1];simp only[rL',aa,simprocAttr,h2,h3,b0,b1,h8,h9,h10,hlt,aN,bO,n0,n1];refine(ef rfl).2 ?_;by_cases c1:0<l.sq
  ·by_cases c2:l.sq<vA s l.id t.pods
   ·rw[aW ⟨c1,c2⟩]at ho;simp only[rL',aa,simprocAttr,h2,h3,b0,b1,h8,h9,h10,n0,n1,k.cm,c1,c2];refine dK 11 i ho.symm _ _ _ (nx+1) ?_ ?_
    all_goals try simp only[aj,Nat.reduceEqDiff,]
   ·rw[ar fun h=>c2 h.2]at ho;simp only[rL',aa,simprocAttr,h2,h3,b0,b1,h8,h9,h10,n0,n1,k.cm,c1,c2,hw];refine ih (i+1) dh cW ho _ _ _ (by omega) ?_ ?_ ?_ ?_ ?_ ?_ ?_
    all_goals try simp only[aj,Nat.reduceEqDiff,h2,h3,b0,b1,h8,h9,n0,n1]
  ·rw[ar fun h=>c1 h.1]at ho;simp only[rL',aa,simprocAttr,h2,h3,b0,b1,h8,h9,h10,n0,n1,k.cm,c1,hw];refine ih (i+1) dh cW ho _ _ _ (by omega) ?_ ?_ ?_ ?_ ?_ ?_ ?_
   all_goals try simp only[aj,Nat.reduceEqDiff,h2,h3,b0,b1,h8,h9,n0,n1]
theorem FQ(S:Bu T)(K0:Std T 234 f234)(s:bc)(t:State)(hn:s.nodes.length<=2^29)(hl:t.pods.length<=2^29)(nY:s.aT.length<=2^29):ba T 234 [aF s,aw t] (mj (dw s t.pods 0 s.aT)):=by
 refine gives K0 rfl ?_;simp only[f234,rL',aa,simprocAttr,aF,aw];refine Bd S s t hn hl nY _ (dw s t.pods 0 s.aT) (fun ho fr hp nx=>?_) (fun c i ho fr hp nx id h4 hb=>?_) s.aT 0 rfl (aO _) rfl _ _ _ (ax _) rfl rfl rfl rfl rfl rfl rfl
 ·simp only[rL',aa,simprocAttr,ho,mj]
 ·simp only[rL',aa,simprocAttr,ho,mj,h4,hb,ix]
/-! ### The U2 -/
def ED(s:bc):PV:=.gX [.slice (s.nodes.map bC),.slice (s.aT.map bO),.slice (s.pods.map aK)] 0
def Q5(x:Spec):PV:=.gX [.slice (x.b9.map cj),.int .i64 x.pre,.int .i64 x.fe] 0
def Bn(t:State):PV:=.gX [.slice (t.pods.map aK),.int .i64 t.pre,.int .i64 t.fe] 0
def Ll(s:bc)(x:Spec)(t:State):List PV:=[.func 225 [] [ED s,Bn t],.func 226 [] [ED s,Bn t],.func 227 [] [ED s,Bn t],.func 228 [] [ED s,Bn t],.func 229 [] [Q5 x,Bn t]]
structure qy(T:cK):Prop where
 s6:Jf T
 s8:Bu T
 EY:Std T 219 f219
 At:vV T 266
 Qc:Std T 68 f68
 J0:Std T 69 f69
 DE:Std T 81 f81
 K0:Std T 234 f234
 Qd:Std T 70 f70
 Lo:Std T 71 f71
 Qe:Std T 72 f72
 Ow:Std T 223 f223
 Ox:Std T 224 f224
 Oy:Std T 225 f225
 Oz:Std T 226 f226
 OA:Std T 227 f227
 OB:Std T 228 f228
 OC:Std T 229 f229
theorem JI(S:qy T)(s:bc)(x:Spec)(t:State):ba T 224 [aF s,bg x,aw t] (.agg (Ll s x t)):=by
 refine gives S.Ox rfl ?_;simp only[f224,rL',aa,simprocAttr,aF,bg,aw,mkFun,mZ,Ll,ED,Q5,Bn]
theorem Jr(S:qy T)(s:bc)(t:State)(hn:s.nodes.length<=2^29)(hl:t.pods.length<=2^29)(hw:∀p∈t.pods,p.wf):ba T 225 [ED s,Bn t] (mj (dR s t.pods 0 s.nodes)):=by
 have k:=KW S.s6 S.EY S.At s t (by omega) (by omega) hw;simp only[aF,aw]at k;refine gives S.Oy rfl ?_;simp only[f225,rL',aa,simprocAttr,ED,Bn,k.call]
theorem Js(S:qy T)(s:bc)(t:State)(hn:s.aT.length<=2^29)(hl:t.pods.length<=2^29):ba T 226 [ED s,Bn t] (mj (dN s.aT [] t.pods)):=by
 have k:=Gu S.Qc S.J0 S.DE s t (by omega) (by omega);simp only[aF,aw]at k;refine gives S.Oz rfl ?_;simp only[f226,rL',aa,simprocAttr,ED,Bn,k.call]
theorem Jt(S:qy T)(s:bc)(t:State)(hn:s.nodes.length<=2^29)(hl:t.pods.length<=2^29)(nY:s.aT.length<=2^29):ba T 227 [ED s,Bn t] (mj (dw s t.pods 0 s.aT)):=by
 have k:=FQ S.s8 S.K0 s t hn hl nY;simp only[aF,aw]at k;refine gives S.OA rfl ?_;simp only[f227,rL',aa,simprocAttr,ED,Bn,k.call]
theorem Ju(S:qy T)(s:bc)(t:State)(hl:t.pods.length<=2^29)(nY:s.aT.length<=2^29):ba T 228 [ED s,Bn t] (mj (eL t.pods 0 s.aT)):=by
 have k:=Ez S.Qd S.Lo s t (by omega) (by omega);simp only[aF,aw]at k;refine gives S.OB rfl ?_;simp only[f228,rL',aa,simprocAttr,ED,Bn,k.call]
theorem Jv(S:qy T)(x:Spec)(t:State):ba T 229 [Q5 x,Bn t] (cond (nO x t) (ct 15) .dI):=by
 have k:=IB S.Qe x t;simp only[bg,aw]at k;refine gives S.OC rfl ?_;simp only[f229,rL',aa,simprocAttr,Q5,Bn,k.call]
/-! ### Vp,Is -/
def vT(r:PV):Prop:=r=.dI\/(∃a n,r=ix a n)\/∃n,r=ct n
theorem ov(o:Option (Int×Int)):vT (mj o):=by
 cases o with
 |none=>exact .inl rfl
 |some q=>exact .inr (.inl ⟨_,_,rfl⟩)
theorem wM(x:Spec)(t:State):vT (cond (nO x t) (ct 15) .dI):=by
 cases nO x t
 ·exact .inl rfl
 ·exact .inr (.inr ⟨_,rfl⟩)
def ml:List PV->PV
 |[]=>.dI
 | .dI::r=>ml r
 |e::_=>e
def gG:PV->Bool
 | .dI=>true
 |_=>false
def Aa(s:bc)(x:Spec)(t:State):List PV:=[mj (dR s t.pods 0 s.nodes),mj (dN s.aT [] t.pods),mj (dw s t.pods 0 s.aT),mj (eL t.pods 0 s.aT),cond (nO x t) (ct 15) .dI]
def qo(s:bc)(x:Spec)(t:State):PV:=ml (Aa s x t)
theorem uH:∀(l:List PV),(∀e∈l,vT e)->vT (ml l)
 |[],_=>.inl rfl
 |e::r,h=>by
  have h1:=h e (bN ..);have h2:=uH r fun e he=>h e (bd _ he);rcases h1 with rfl|⟨a,n,rfl⟩|⟨n,rfl⟩
  ·exact h2
  ·exact .inr (.inl ⟨_,_,rfl⟩)
  ·exact .inr (.inr ⟨_,rfl⟩)
theorem GV(s:bc)(x:Spec)(t:State):∀e∈Aa s x t,vT e:=by
 intro e he;simp only[Aa,aQ,List.not_mem_nil,or_false]at he;rcases he with rfl|rfl|rfl|rfl|rfl
 ·exact ov _
 ·exact ov _
 ·exact ov _
 ·exact ov _
 ·exact wM _ _
theorem oY{fs:List PV}{i n:Nat}{a b r:PV}(hi:i<5)(hf:fs[i]? =some (.func n [] [a,b]))(k:ba T n [a,b] r)(hr:vT r)(Q:Exit->St->Prop)(fr:List (Nat×AV))(hp:Hl)(nx:Nat)
    (pj:look fr 13=.pv (.agg fs)) (uL:look fr 14=.pv (.int .i64 i))
    (hn:r=.dI->∀fG,look fG 13=.pv (.agg fs)->look fG 14=.pv (.int .i64 ((i+1:Nat):Int))->Wp T false (.loop uC) ⟨fG,hp,nx⟩ Q)
    (hs:r≠ .dI->∀fG,look fG 6=.pv r->Q .ret ⟨fG,hp,nx⟩):Wp T false (.loop uC) ⟨fr,hp,nx⟩ Q:=by
 have hlt:(i:Int)<5:=by omega
 have hw:IntKind.i64.wrap ((i:Int)+1)=((i+1:Nat):Int):=by rw[dS] <;>omega
 have RU:iY false 1 (List.drop (i*1) (dL fs))=some (.pv (.func n [] [a,b])):=by
  have hlen:i<fs.length:=(aA.1 hf).1;have ME:i<(dL fs).length:=by rw[nC];exact hlen
  have hg:(dL fs)[i]? =some (.pv (.func n [] [a,b])):=by rw[zh,hf];rfl
  have hg2:(dL fs)[i]=.pv (.func n [] [a,b]):=by
   rw[nQ ME]at hg;simpa using hg
  rw[Nat.mul_one,List.drop_eq_getElem_cons ME,hg2];rfl
 rw[az,aY uC.eq_1];rcases hr with rfl|⟨c,m,rfl⟩|⟨m,rfl⟩
 ·simp only[rL',aa,simprocAttr,pf,xK,pj,uL,hlt,hi,RU,k.call,hw];refine hn rfl _ ?_ ?_
  all_goals try simp only[aj,Nat.reduceEqDiff,pj,uL]
 ·simp only[ix]at k;simp only[rL',aa,simprocAttr,pf,xK,pj,uL,hlt,hi,RU,k.call,hw];refine hs (by simp[ix]) _ ?_
  all_goals try simp only[aj,Nat.reduceEqDiff,ix]
 ·simp only[ct]at k;simp only[rL',aa,simprocAttr,pf,xK,pj,uL,hlt,hi,RU,k.call,hw];refine hs (by simp[ct]) _ ?_
  all_goals try simp only[aj,Nat.reduceEqDiff,ct]
theorem mH{e:PV}{r:List PV}(h:e≠ .dI):ml (e::r)=e:=by
 cases e <;>first|rfl|exact absurd rfl h
theorem IG(S:qy T)(s:bc)(x:Spec)(t:State)(hn:s.nodes.length<=2^29)(hl:t.pods.length<=2^29)(nY:s.aT.length<=2^29)(hw:∀p∈t.pods,p.wf):ba T 223 [aF s,bg x,aw t] (qo s x t):=by
 have k0:=JI S s x t;have k1:=Jr S s t hn hl hw;have k2:=Js S s t nY hl;have k3:=Jt S s t hn hl nY;have k4:=Ju S s t hl nY;have k5:=Jv S x t;simp only[aF,bg,aw]at k0;refine gives S.Ow rfl ?_;simp only[f223,rL',aa,simprocAttr,aF,bg,aw,k0.call];unfold qo Aa;refine oY (i:=0) (by omega) rfl k1 (ov _) _ _ _ _ rfl rfl (fun e1 fr pj uL=>?_) (fun e1 fr h6=>?_)
 ·rw[e1,ml];refine oY (i:=1) (by omega) rfl k2 (ov _) _ _ _ _ pj uL (fun e1 fr pj uL=>?_) (fun e1 fr h6=>?_)
  ·rw[e1,ml];refine oY (i:=2) (by omega) rfl k3 (ov _) _ _ _ _ pj uL (fun e1 fr pj uL=>?_) (fun e1 fr h6=>?_)
   ·rw[e1,ml];refine oY (i:=3) (by omega) rfl k4 (ov _) _ _ _ _ pj uL (fun e1 fr pj uL=>?_) (fun e1 fr h6=>?_)
    ·rw[e1,ml];refine oY (i:=4) (by omega) rfl k5 (wM _ _) _ _ _ _ pj uL (fun e1 fr pj uL=>?_) (fun e1 fr h6=>?_)
     ·rw[e1,ml];have R8:look fr 14=.pv (.int .i64 5):=uL;rw[az,aY uC.eq_1];simp only[rL',aa,simprocAttr,pj,R8,aP,ml]
     ·rw[mH e1];simp only[rL',aa,simprocAttr,h6]
    ·rw[mH e1];simp only[rL',aa,simprocAttr,h6]
   ·rw[mH e1];simp only[rL',aa,simprocAttr,h6]
  ·rw[mH e1];simp only[rL',aa,simprocAttr,h6]
 ·rw[mH e1];simp only[rL',aa,simprocAttr,h6]
theorem Kk(S:qy T)(JZ:Std T 222 f222)(s:bc)(x:Spec)(t:State)(hn:s.nodes.length<=2^29)(hl:t.pods.length<=2^29)(nY:s.aT.length<=2^29)(hw:∀p∈t.pods,p.wf):ba T 222 [aF s,bg x,aw t] (.bool (gG (qo s x t))):=by
 have k:=IG S s x t hn hl nY hw;have hv:vT (qo s x t):=uH _ (GV s x t);refine gives JZ rfl ?_;rcases hv with e|⟨a,n,e⟩|⟨n,e⟩ <;>
 ·rw[e]at k⊢;simp only[aF,bg,aw,ix,ct]at k;simp only[f222,rL',aa,simprocAttr,aF,bg,aw,k.call,gG,ix,ct]
end
end
section
def M8(args:List AV)(hp:Hl)(nx:Nat):Option (AV×Hl×Nat) :=
 match args with
 |[.pv .dI,.iface 2 (.ptr k 0 0)]=>some (.pv (.bool false),hp,nx)
 |[.pv (.iface 0 (.int .i64 n)),.iface 2 (.ptr k 0 0)]=>match ah hp k with
  | .var [.pv .sd]=>some (.pv (.bool false),hp,nx)
  |_=>none
 |[.pv (.iface 1 (.gX [.int .i64 a,.int .i64 n] 0)),.iface 2 (.ptr k 0 0)]=>match ah hp k with
  | .var [.pv .sd]=>some (.pv (.bool true),(k,.var [.pv (.gX [.int .i64 a,.int .i64 n] 0)])::hp,nx)
  |_=>none
 |_=>zU args hp nx
theorem Rel.SG{X:Ctx}{M:Nat->Nat}{F:Fr}{hp:Hl}{nx:Nat}{a:Act}{w:World}(R:Rel X M F (ah hp) (fun i=>i<nx) a w){k:Nat}{p0:PV}{u:Value}(hb:ah hp k=.var [.pv p0])(hu:VA (aB X w (fun i=>i<nx) M (ah hp)) (.ptr k 0 0) u) :
    u=.pointer (some ⟨M k,0,none⟩)/\(∃old,w.cell? ⟨M k,0,none⟩=some old)/\w.frozen? ⟨M k,0,none⟩=false:=by
 simp only[VA,aB]at hu;obtain⟨_,_,hu⟩:=hu;have e:=hu (0,0) (by rw[hb];rfl);have hB:=R.blk k;rw[hb]at hB;obtain⟨c,t,q1,q2,q3⟩:=hB;simp only[aB]at q1;have lI:c.size=1:=by simpa using q2
 simp only[mT,and_true]at q3;obtain⟨x,q4,_,_⟩:=q3;refine⟨by simpa using e,⟨x,q4⟩,?_⟩;simp only[World.frozen?,q1];simp
theorem Gx{args:List AV}{hp:Hl}{nx:Nat}{r:AV×Hl×Nat}(h:zU args hp nx=some r):M8 args hp nx=some r:=by
 unfold M8;split
 ·simp[zU]at h
 ·simp[zU]at h
 ·simp[zU]at h
 ·exact h
structure Gh(T:cK)(n:Nat):Prop where
 fW:T.fW n=some M8
 raw:T.raw n=true
theorem Gh.a{T:cK}{n:Nat}(S:Gh T n):vV T n:=⟨⟨_,S.fW,fun _ _ _ _ h=>Gx h⟩,S.raw⟩
section
variable{T:cK}{n:Nat}(S:Gh T n)
include S
end
end
section
/-! ### Of -/
def nh:PV->List Int
 | .iface 0 (.int _ n)=>[n]
 | .iface 1 (.gX [_,.int _ n] _)=>[n]
 |_=>[]
def ng(r:PV):Int:=(nh r).headD 0
section
variable{T:cK}
/-! ### TM -/
end
/-! ### The plain law -/
/-! ### The walk -/
end
def f16:bf:=⟨49,[],
(.seq (.seq (.ops [
aq 8 0 [],
jE 9 8 [0],
bQ 10 2 9 [1],
bR 11 1 10 [2],
aR 12 (.bin .eql (some (.iface true)) (.t 11) (.c (.pv .dI))) [3]])
(.cond (.t 12)
(.seq (.ops [
aq 13 1 [],
aq 14 0 [],
jE 15 14 [1],
bQ 16 1 15 [2],
bR 17 1 16 [3],
aR 18 (.call 86 [.t 13,.t 17]) [0,4],
aq 6 18 [5,5,0,1,2,3,4,5]])
(.seq (.seq (.ops [
aq 19 6 [],
aR 20 (.bin .eql (some (.iface true)) (.t 19) (.c (.pv .dI))) [0]])
(.cond (.t 20)
(.ops [
aq 21 2 [],
aR 22 (.fK (.t 21) []) [0],
aq 6 22 [1,1,0,1]])
.skip))
(.seq (.ops [
aR 7 (.alloc [.pv (.int .i64 0)]) []])
(.seq (.ops [
aq 23 6 [],
aR 24 (.lr 3 (.t 7)) [],
aR 25 (.call 266 [.t 23,.t 24]) [0,1]])
(.cond (.t 25)
(.draw [
aq 26 0 [],
aq 27 0 [],
jE 28 27 [1],
bQ 29 0 28 [2],
bR 30 1 29 [3],
bR 31 1 7 [],
aR 32 (.build [.pv (.int .i64 0),.pv (.int .i64 0)] [(0,1,(.t 30)),(1,1,(.t 31))]) [4,5],
df 33 32 [6],
aR 34 (.lr 1 (.t 33)) [7],
jE 35 26 [0,0,1,2,3,4,5,6,7,8],
bQ 36 2 35 [9,0,1,2,3,4,5,6,7,8],
dk 1 36 34 [10,8,0,1,2,3,4,5,6,7,8]])
.skip)))))
.skip))
(.ops [
aq 37 0 [],
aq 38 0 [],
aq 39 0 [],
jE 40 39 [2],
bQ 41 0 40 [3],
bR 42 1 41 [4],
cM 43 .add 42 1 [5],
aq 44 1 [],
jE 45 37 [0,0,2,3,4,5,6],
bQ 46 0 45 [8,0,2,3,4,5,6],
dk 1 46 43 [9,6,0,2,3,4,5,6],
jE 47 38 [1,0,1,2,3,4,5,6,7,8,9,10],
bQ 48 1 47 [11,0,1,2,3,4,5,6,7,8,9,10],
dk 1 48 44 [12,7,10,0,1,2,3,4,5,6,7,8,9,10]]))⟩
def Dq:bx :=
(.seq (.ops [
dX 39 .lss 38 37 []])
(.seq (.cond (.t 39)
.skip
(.exit 0))
(.seq (.block 1
(.seq (.ops [
fw 40 10 36 38 [],
ck 41 10 40 [0],
aR 5 (.alloc [.pv (.int .i64 0),.pv (.int .i64 0),.pv (.int .u64 0),.pv (.int .u64 0),.pv (.int .u64 0),.pv (.int .u64 0),.pv (.int .u64 0),.pv (.int .u64 0),.pv (.int .u64 0),.pv (.int .u64 0)]) [],
dk 10 5 41 [2,1,0,1,2]])
(.ops [
aq 42 3 [],
bQ 43 0 5 [],
bR 44 1 43 [1],
aR 45 (.xa 77 [] [.t 5]) [],
aR 46 (.call 16 [.t 42,.t 44,.t 45]) [0,2,3]])))
(.ops [
cM 47 .add 38 1 [],
aq 38 47 [0]]))))
def Dr:bx :=
(.seq (.ops [
dX 55 .lss 54 53 []])
(.seq (.cond (.t 55)
.skip
(.exit 2))
(.seq (.block 3
(.seq (.ops [
fw 56 5 52 54 [],
ck 57 5 56 [0],
aR 7 (.alloc [.pv (.int .i64 0),.pv (.bool false),.pv (.int .i64 0),.pv (.int .i64 0),.pv (.int .i64 0)]) [],
dk 5 7 57 [2,1,0,1,2]])
(.ops [
aq 58 3 [],
bQ 59 0 7 [],
bR 60 1 59 [1],
aR 61 (.xa 78 [] [.t 7]) [],
aR 62 (.call 16 [.t 58,.t 60,.t 61]) [0,2,3]])))
(.ops [
cM 63 .add 54 1 [],
aq 54 63 [0]]))))
def Ds:bx :=
(.seq (.ops [
dX 71 .lss 70 69 []])
(.seq (.cond (.t 71)
.skip
(.exit 4))
(.seq (.block 5
(.seq (.ops [
fw 72 8 68 70 [],
ck 73 8 72 [0],
aR 9 (.alloc [.pv (.int .i64 0),.pv (.int .i64 0),.pv (.int .i64 0),.pv (.int .u64 0),.pv (.int .u64 0),.pv (.int .u64 0),.pv (.int .u64 0),.pv (.int .i64 0)]) [],
dk 8 9 73 [2,1,0,1,2]])
(.ops [
aq 74 3 [],
bQ 75 0 9 [],
bR 76 1 75 [1],
aR 77 (.xa 79 [] [.t 1,.t 9]) [],
aR 78 (.call 16 [.t 74,.t 76,.t 77]) [0,2,3]])))
(.ops [
cM 79 .add 70 1 [],
aq 70 79 [0]]))))
def f76:bf:=⟨84,[.t 2],
(.seq (.ops [
df 1 0 [],
jo 2 []])
(.seq (.seq (.ops [
bQ 10 0 1 [],
bR 11 1 10 [0],
fT 12 11 [1],
cM 13 .lss 12 1 [2],
aq 14 13 [3],
ew 15 14 false 0 1 [4],
ec 16 14 false 1 15 [5,4],
ej 17 14 false (.len (.t 16)) [6,4],
gD 18 14 false .gtr 17 8 [7,4],
jT 19 14 18 [4,8],
aq 20 19 [9,4],
ew 21 20 false 1 1 [10],
ec 22 20 false 1 21 [11,10],
ej 23 20 false (.len (.t 22)) [12,10],
gD 24 20 false .gtr 23 8 [13,10],
jT 25 20 24 [10,14],
aq 26 25 [15,10],
ew 27 26 false 2 1 [16],
ec 28 26 false 1 27 [17,16],
ej 29 26 false (.len (.t 28)) [18,16],
gD 30 26 false .gtr 29 12 [19,16],
jT 31 26 30 [16,20]])
(.cond (.t 31)
(.seq (.ops [
aR 32 (.lr 0 (.c (.pv (.int .i64 3)))) [],
aq 2 32 [0,0]])
.ret)
.skip))
(.seq (.ops [
aR 33 (.build [.pv (.int .i64 0),.pv (.int .i64 0),.pv .dI] []) [],
df 34 33 [0],
aq 3 34 [1,0,1]])
(.seq (.seq (.ops [
bQ 35 0 1 [],
bR 36 1 35 [0],
fT 37 36 [1],
cR 38 0 []])
(.block 0
(.loop Dq)))
(.seq (.ops [
aq 48 3 [],
jE 49 48 [0,0],
bQ 50 1 49 [1,0],
N8 (.store 1 (.t 50) (.c (.pv (.int .i64 0)))) [2,0]])
(.seq (.seq (.ops [
bQ 51 1 1 [],
bR 52 1 51 [0],
fT 53 52 [1],
cR 54 0 []])
(.block 2
(.loop Dr)))
(.seq (.ops [
aq 64 3 [],
jE 65 64 [0,0],
bQ 66 1 65 [1,0],
N8 (.store 1 (.t 66) (.c (.pv (.int .i64 0)))) [2,0]])
(.seq (.seq (.ops [
bQ 67 2 1 [],
bR 68 1 67 [0],
fT 69 68 [1],
cR 70 0 []])
(.block 4
(.loop Ds)))
(.seq (.ops [
aq 80 3 [],
jE 81 80 [0],
bQ 82 2 81 [1],
bR 83 1 82 [2],
aq 2 83 [3,0,1,2,3]])
.ret)))))))))⟩
def f77:bf:=⟨4,[.t 1],
(.seq (.ops [
jo 1 []])
(.seq (.ops [
ck 2 10 0 [],
aR 3 (.call 88 [.t 2]) [0],
aq 1 3 [1,1,0,1]])
.ret))⟩
def f78:bf:=⟨4,[.t 1],
(.seq (.ops [
jo 1 []])
(.seq (.ops [
ck 2 5 0 [],
aR 3 (.call 87 [.t 2]) [0],
aq 1 3 [1,1,0,1]])
.ret))⟩
def f79:bf:=⟨6,[.t 2],
(.seq (.ops [
jo 2 []])
(.seq (.ops [
ck 3 3 0 [],
ck 4 8 1 [],
aR 5 (.call 89 [.t 3,.t 4]) [0,1],
aq 2 5 [2,2,0,1,2]])
.ret))⟩
def Dt:bx :=
(.seq (.ops [
dX 36 .lss 35 34 []])
(.seq (.cond (.t 36)
.skip
(.exit 0))
(.seq (.block 1
(.seq (.ops [
aq 37 35 [],
aq 6 37 [0,0]])
(.seq (.ops [
aR 7 (.alloc [.pv (.int .i64 0)]) []])
(.seq (.ops [
ck 38 3 2 [],
bQ 39 0 3 [],
bR 40 1 39 [1],
aq 41 6 [],
aR 42 (.call 90 [.t 38,.t 40,.t 41]) [0,2,3],
aR 43 (.lr 3 (.t 7)) [],
aR 44 (.call 266 [.t 42,.t 43]) [4,5,4]])
(.cond (.t 44)
(.seq (.ops [
aq 45 6 [],
bR 46 1 7 [],
aR 47 (.build [.pv (.int .i64 0),.pv (.int .i64 0)] [(0,1,(.t 45)),(1,1,(.t 46))]) [0,1],
df 48 47 [2],
aR 49 (.lr 1 (.t 48)) [3],
aq 4 49 [4,0,1,2,3,4]])
.ret)
.skip)))))
(.ops [
cM 50 .add 35 1 [],
aq 35 50 [0]]))))
def f80:bf:=⟨51,[.t 4],
(.seq (.ops [
df 2 0 [],
df 3 1 [],
jo 4 []])
(.seq (.seq (.ops [
ck 8 3 2 [],
aR 9 (.call 76 [.t 8]) [0],
aq 5 9 [1,1,0,1]])
(.seq (.ops [
aq 10 5 [],
aR 11 (.bin .neq (some (.iface true)) (.t 10) (.c (.pv .dI))) [0]])
(.cond (.t 11)
(.seq (.ops [
aq 12 5 [],
aq 4 12 [0,0]])
.ret)
.skip)))
(.seq (.seq (.ops [
bQ 13 1 3 [],
bR 14 1 13 [0],
cM 15 .lss 14 0 [1],
aq 16 15 [2],
ew 17 16 false 1 3 [3],
ec 18 16 false 1 17 [4,3],
gD 19 16 false .gtr 18 40 [5,3],
jT 20 16 19 [3,6],
aq 21 20 [7,3],
ew 22 21 false 2 3 [8],
ec 23 21 false 1 22 [9,8],
gD 24 21 false .lss 23 0 [10,8],
jT 25 21 24 [8,11],
aq 26 25 [12,8],
ew 27 26 false 2 3 [13],
ec 28 26 false 1 27 [14,13],
gD 29 26 false .gtr 28 40 [15,13],
jT 30 26 29 [13,16]])
(.cond (.t 30)
(.seq (.ops [
aR 31 (.lr 0 (.c (.pv (.int .i64 3)))) [],
aq 4 31 [0,0]])
.ret)
.skip))
(.seq (.seq (.ops [
bQ 32 0 3 [],
bR 33 1 32 [0],
fT 34 33 [1],
cR 35 0 []])
(.block 0
(.loop Dt)))
(.seq (.ops [
jo 4 []])
.ret)))))⟩
def f85:bf:=⟨9,[.t 2],
(.seq (.ops [
fV 2 false []])
(.seq (.ops [
aq 3 0 [],
cM 4 .geq 3 0 [0],
aq 5 4 [1],
fa 6 5 true 0 [2],
gD 7 5 true .leq 6 100 [3,2],
iZ 8 5 7 [2,4],
aq 2 8 [5,2,0,1,2,3,4,5]])
.ret))⟩
def f86:bf:=⟨27,[.t 4],
(.seq (.ops [
jo 4 []])
(.seq (.block 0
(.seq (.ops [
aq 6 0 [],
aq 7 1 [],
dX 8 .eql 6 7 [0,1],
aq 9 8 [2],
fa 10 9 true 0 [3],
gD 11 9 true .geq 10 1 [4,3],
iZ 12 9 11 [3,5],
aq 5 12 [6,3]])
(.cond (.t 5)
(.seq (.ops [
aR 13 (.lr 0 (.c (.pv (.int .i64 5)))) [],
aq 4 13 [0,0]])
.ret)
(.seq (.ops [
aq 15 0 [],
cM 16 .lss 15 1 [0],
aq 17 16 [1],
fa 18 17 false 0 [2],
gD 19 17 false .gtr 18 2147483647 [3,2],
jT 20 17 19 [2,4],
aq 21 20 [5,2],
fa 22 21 false 0 [6],
fa 23 21 false 1 [6],
ej 24 21 false (.bin .lss none (.t 22) (.t 23)) [7,8,6],
jT 25 21 24 [6,9],
aq 14 25 [10,6]])
(.cond (.t 14)
(.seq (.ops [
aR 26 (.lr 0 (.c (.pv (.int .i64 1)))) [],
aq 4 26 [0,0]])
.ret)
.skip)))))
(.seq (.ops [
jo 4 []])
.ret)))⟩
def f87:bf:=⟨27,[.t 2],
(.seq (.ops [
df 1 0 [],
jo 2 []])
(.seq (.seq (.ops [
bQ 3 2 1 [],
bR 4 1 3 [0],
aR 5 (.call 85 [.t 4]) [1],
aR 6 (.not (.t 5)) [2],
aq 7 6 [3,2],
ew 8 7 false 3 1 [4],
ec 9 7 false 1 8 [5,4],
ej 10 7 false (.call 85 [.t 9]) [6,4,4],
ej 11 7 false (.not (.t 10)) [7,4],
jT 12 7 11 [4,8],
aq 13 12 [9,7],
ew 14 13 false 4 1 [10],
ec 15 13 false 1 14 [11,10],
ej 16 13 false (.call 85 [.t 15]) [12,10,10],
ej 17 13 false (.not (.t 16)) [13,10],
jT 18 13 17 [10,14],
aq 19 18 [15,13],
ew 20 19 false 3 1 [16],
ec 21 19 false 1 20 [17,16],
ew 22 19 false 4 1 [16],
ec 23 19 false 1 22 [19,16],
ej 24 19 false (.bin .gtr none (.t 21) (.t 23)) [18,20,16],
jT 25 19 24 [16,21]])
(.cond (.t 25)
(.seq (.ops [
aR 26 (.lr 0 (.c (.pv (.int .i64 1)))) [],
aq 2 26 [0,0]])
.ret)
.skip))
(.seq (.ops [
jo 2 []])
.ret)))⟩
def f88:bf:=⟨20,[.t 2],
(.seq (.ops [
df 1 0 [],
jo 2 []])
(.seq (.seq (.ops [
bQ 3 1 1 [],
bR 4 1 3 [0],
cM 5 .lss 4 1 [1],
aq 6 5 [2],
ew 7 6 false 1 1 [3],
ec 8 6 false 1 7 [4,3],
gD 9 6 false .gtr 8 8 [5,3],
jT 10 6 9 [3,6],
aq 11 10 [7,3],
ew 12 11 false 6 1 [8],
ej 13 11 false (.load true 4 (.t 12)) [9,8],
ew 14 11 false 2 1 [8],
ej 15 11 false (.load true 4 (.t 14)) [11,8],
ej 16 11 false (.call 257 [.t 13,.t 15]) [10,12,8,8],
ej 17 11 false (.not (.t 16)) [13,8],
jT 18 11 17 [8,14]])
(.cond (.t 18)
(.seq (.ops [
aR 19 (.lr 0 (.c (.pv (.int .i64 1)))) [],
aq 2 19 [0,0]])
.ret)
.skip))
(.seq (.ops [
jo 2 []])
.ret)))⟩
def f89:bf:=⟨40,[.t 4],
(.seq (.ops [
df 2 0 [],
df 3 1 [],
jo 4 []])
(.seq (.seq (.ops [
bQ 9 2 3 [],
bR 10 1 9 [0],
aR 11 (.call 85 [.t 10]) [1],
aR 12 (.not (.t 11)) [2]])
(.cond (.t 12)
(.seq (.ops [
aR 13 (.lr 0 (.c (.pv (.int .i64 1)))) [],
aq 4 13 [0,0]])
.ret)
.skip))
(.seq (.ops [
ck 15 3 2 [],
bQ 16 1 3 [],
bR 17 1 16 [1],
aR 18 (.call 81 [.t 15,.t 17]) [0,2],
aq 14 18 [3],
fu 19 14 0 [4],
fu 20 14 1 [4],
aR 5 (.alloc [.pv (.int .i64 0),.pv (.bool false),.pv (.int .i64 0),.pv (.int .i64 0),.pv (.int .i64 0)]) [],
dk 5 5 19 [7,5,3,0,1,2,3,4,5,7],
aq 6 20 [6,8,0,1,2,3,4,5,6,7,8]])
(.seq (.ops [
ck 22 3 2 [],
bQ 23 7 3 [],
bR 24 1 23 [1],
aR 25 (.call 82 [.t 22,.t 24]) [0,2],
aq 21 25 [3],
fu 26 21 0 [4],
fu 27 21 1 [4],
aR 7 (.alloc [.pv (.int .i64 0),.pv (.int .i64 0),.pv (.int .u64 0),.pv (.int .u64 0),.pv (.int .u64 0),.pv (.int .u64 0),.pv (.int .u64 0),.pv (.int .u64 0),.pv (.int .u64 0),.pv (.int .u64 0)]) [],
dk 10 7 26 [7,5,3,0,1,2,3,4,5,7],
aq 8 27 [6,8,0,1,2,3,4,5,6,7,8]])
(.seq (.seq (.ops [
aq 28 6 [],
aR 29 (.not (.t 28)) [0],
aq 30 29 [1],
ew 31 30 false 7 3 [2],
ec 32 30 false 1 31 [3,2],
gD 33 30 false .neq 32 0 [4,2],
fa 34 30 false 33 [5,2,2],
fa 35 34 true 8 [6],
ej 36 34 true (.not (.t 35)) [7,6],
IZ 37 30 false 34 36 [6,8,2],
jT 38 30 37 [2,9]])
(.cond (.t 38)
(.seq (.ops [
aR 39 (.lr 0 (.c (.pv (.int .i64 4)))) [],
aq 4 39 [0,0]])
.ret)
.skip))
(.seq (.ops [
jo 4 []])
.ret))))))⟩
def f90:bf:=⟨60,[.t 6],
(.seq (.ops [
df 3 0 [],
jo 6 []])
(.seq (.ops [
aq 8 1 [],
aq 9 2 [],
fw 10 6 8 9 [0,1],
ck 11 6 10 [2],
aR 7 (.alloc [.pv (.int .i64 0),.pv (.int .u64 0),.pv (.int .u64 0),.pv (.int .u64 0),.pv (.int .u64 0),.pv (.bool false)]) [],
dk 6 7 11 [4,3,0,1,2,3,4]])
(.seq (.block 0
(.seq (.draw [
aq 13 2 [],
cM 14 .gtr 13 0 [0],
aq 15 14 [1],
ew 16 15 true 0 7 [2],
ec 17 15 true 1 16 [3,2],
fa 18 15 true 1 [2],
fa 19 15 true 2 [2],
gD 20 15 true .sub 19 1 [6,2],
zB 21 15 true 6 18 20 [5,7,2],
ew 22 15 true 0 21 [8,2],
ec 23 15 true 1 22 [9,2],
ej 24 15 true (.bin .eql none (.t 17) (.t 23)) [4,10,2],
iZ 25 15 24 [2,11],
aq 12 25 [12,2]])
(.cond (.t 12)
(.seq (.ops [
aR 26 (.lr 0 (.c (.pv (.int .i64 5)))) [],
aq 6 26 [0,0]])
.ret)
(.seq (.draw [
aq 28 2 [],
cM 29 .gtr 28 0 [0],
aq 30 29 [1],
ew 31 30 true 0 7 [2],
ec 32 30 true 1 31 [3,2],
fa 33 30 true 1 [2],
fa 34 30 true 2 [2],
gD 35 30 true .sub 34 1 [6,2],
zB 36 30 true 6 33 35 [5,7,2],
ew 37 30 true 0 36 [8,2],
ec 38 30 true 1 37 [9,2],
ej 39 30 true (.bin .lss none (.t 32) (.t 38)) [4,10,2],
iZ 40 30 39 [2,11],
aq 27 40 [12,2]])
(.cond (.t 27)
(.seq (.ops [
aR 41 (.lr 0 (.c (.pv (.int .i64 1)))) [],
aq 6 41 [0,0]])
.ret)
(.seq (.ops [
bQ 43 2 3 [],
bR 44 1 43 [0],
aR 45 (.xa 91 [] [.t 7]) [],
aR 46 (.call 282 [.t 44,.t 45]) [1,2],
aR 47 (.not (.t 46)) [3],
aq 42 47 [4,3]])
(.cond (.t 42)
(.seq (.ops [
aR 48 (.lr 0 (.c (.pv (.int .i64 4)))) [],
aq 6 48 [0,0]])
.ret)
(.seq (.ops [
bQ 50 5 7 [],
bR 51 1 50 [0],
aR 52 (.not (.t 51)) [1],
aq 53 52 [2],
ew 54 53 true 1 7 [3],
ej 55 53 true (.load true 4 (.t 54)) [4,3],
ej 56 53 true (.build [.pv (.int .u64 0),.pv (.int .u64 0),.pv (.int .u64 0),.pv (.int .u64 0)] []) [3],
ej 57 53 true (.bin .neq (some (.plain [false,false,false,false])) (.t 55) (.t 56)) [5,6,3],
iZ 58 53 57 [3,7],
aq 49 58 [8,3]])
(.cond (.t 49)
(.seq (.ops [
aR 59 (.lr 0 (.c (.pv (.int .i64 1)))) [],
aq 6 59 [0,0]])
.ret)
.skip)))))))))
(.seq (.ops [
jo 6 []])
.ret))))⟩
def f91:bf:=⟨9,[.t 3],
(.seq (.ops [
df 2 0 [],
fV 3 false []])
(.seq (.ops [
bQ 4 0 2 [],
bR 5 1 4 [0],
bQ 6 0 1 [],
bR 7 1 6 [2],
dX 8 .eql 5 7 [1,3],
aq 3 8 [4,0,1,2,3,4]])
.ret))⟩
def uo:bx :=
(.seq (.seq (.ops [
aq 42 6 [],
bQ 43 0 1 [],
bR 44 1 43 [1],
fT 45 44 [2],
dX 46 .lss 42 45 [0,3]])
(.cond (.t 46)
.skip
(.exit 0)))
(.seq (.block 1
(.seq (.ops [
bQ 49 0 1 [],
bR 50 1 49 [0],
aq 51 6 [],
fw 52 10 50 51 [1,2],
ck 53 10 52 [3],
aR 7 (.alloc [.pv (.int .i64 0),.pv (.int .i64 0),.pv (.int .u64 0),.pv (.int .u64 0),.pv (.int .u64 0),.pv (.int .u64 0),.pv (.int .u64 0),.pv (.int .u64 0),.pv (.int .u64 0),.pv (.int .u64 0)]) [],
dk 10 7 53 [5,4,0,1,2,3,4,5]])
(.seq (.ops [
bQ 54 0 7 [],
bR 55 1 54 [0],
aq 56 4 [],
aR 57 (.call 160 [.t 55,.t 56]) [1,2],
aq 8 57 [3,3,0,1,2,3]])
(.seq (.ops [
bQ 58 6 7 [],
ck 59 4 58 [0],
bQ 60 2 7 [],
ck 61 4 60 [2],
aR 62 (.call 141 [.t 59,.t 61]) [1,3],
aq 9 62 [4,4,0,1,2,3,4]])
(.seq (.seq (.ops [
aq 63 8 [],
cM 64 .eql 63 0 [0],
aq 65 64 [1],
ew 66 65 true 1 7 [2],
ec 67 65 true 1 66 [3,2],
gD 68 65 true .lss 67 1 [4,2],
fa 69 65 true 68 [5,2,2],
ew 70 69 false 1 7 [6],
ec 71 69 false 1 70 [7,6],
gD 72 69 false .gtr 71 8 [8,6],
ej 73 65 true (.pick (.t 69) (.c (.pv (.bool true))) (.t 72)) [6,9,2],
fa 74 65 true 73 [10,6,2],
fa 75 74 false 9 [11],
ej 76 74 false (.not (.t 75)) [12,11],
ej 77 65 true (.pick (.t 74) (.c (.pv (.bool true))) (.t 76)) [11,13,2],
iZ 78 65 77 [2,14]])
(.cond (.t 78)
(.ops [
cR 8 1 []])
.skip))
(.seq (.seq (.ops [
aq 79 8 [],
cM 80 .neq 79 0 [0]])
(.cond (.t 80)
(.seq (.ops [
aq 81 8 [],
aq 82 5 [],
aq 2 81 [0,0],
aq 3 82 [1,2,0,1,2]])
.ret)
.skip))
(.seq (.ops [
bQ 83 0 7 [],
bR 84 1 83 [0],
aq 4 84 [1,0,1]])
(.ops [
aq 85 5 [],
cM 86 .add 85 1 [0],
aq 5 86 [1,0,1]]))))))))
(.ops [
aq 47 6 [],
cM 48 .add 47 1 [0],
aq 6 48 [1,0,1]])))
def ur:bx :=
(.seq (.seq (.ops [
aq 87 10 [],
bQ 88 1 1 [],
bR 89 1 88 [1],
fT 90 89 [2],
dX 91 .lss 87 90 [0,3]])
(.cond (.t 91)
.skip
(.exit 2)))
(.seq (.block 3
(.seq (.ops [
bQ 94 1 1 [],
bR 95 1 94 [0],
aq 96 10 [],
fw 97 5 95 96 [1,2],
ck 98 5 97 [3],
aR 11 (.alloc [.pv (.int .i64 0),.pv (.bool false),.pv (.int .i64 0),.pv (.int .i64 0),.pv (.int .i64 0)]) [],
dk 5 11 98 [5,4,0,1,2,3,4,5]])
(.seq (.ops [
bQ 99 0 11 [],
bR 100 1 99 [0],
aq 101 4 [],
aR 102 (.call 160 [.t 100,.t 101]) [1,2],
aq 12 102 [3,3,0,1,2,3]])
(.seq (.ops [
bQ 103 2 11 [],
bR 104 1 103 [0],
aR 105 (.call 159 [.t 104]) [1],
aq 13 105 [2,2,0,1,2]])
(.seq (.ops [
bQ 106 3 11 [],
bR 107 1 106 [0],
aR 108 (.call 159 [.t 107]) [1],
aq 14 108 [2,2,0,1,2]])
(.seq (.ops [
bQ 109 4 11 [],
bR 110 1 109 [0],
aR 111 (.call 159 [.t 110]) [1],
aq 15 111 [2,2,0,1,2]])
(.seq (.seq (.ops [
aq 112 12 [],
cM 113 .eql 112 0 [0],
aq 114 113 [1],
fa 115 114 true 13 [2],
ej 116 114 true (.not (.t 115)) [3,2],
fa 117 114 true 116 [4,2,2],
fa 118 117 false 14 [5],
ej 119 117 false (.not (.t 118)) [6,5],
ej 120 114 true (.pick (.t 117) (.c (.pv (.bool true))) (.t 119)) [5,7,2],
fa 121 114 true 120 [8,5,2],
fa 122 121 false 15 [9],
ej 123 121 false (.not (.t 122)) [10,9],
ej 124 114 true (.pick (.t 121) (.c (.pv (.bool true))) (.t 123)) [9,11,2],
fa 125 114 true 124 [12,9,2],
ew 126 125 false 3 11 [13],
ec 127 125 false 1 126 [14,13],
ew 128 125 false 4 11 [13],
ec 129 125 false 1 128 [16,13],
ej 130 125 false (.bin .gtr none (.t 127) (.t 129)) [15,17,13],
ej 131 114 true (.pick (.t 125) (.c (.pv (.bool true))) (.t 130)) [13,18,2],
iZ 132 114 131 [2,19]])
(.cond (.t 132)
(.ops [
cR 12 1 []])
.skip))
(.seq (.seq (.ops [
aq 133 12 [],
cM 134 .neq 133 0 [0]])
(.cond (.t 134)
(.seq (.ops [
aq 135 12 [],
aq 136 5 [],
aq 2 135 [0,0],
aq 3 136 [1,2,0,1,2]])
.ret)
.skip))
(.seq (.ops [
bQ 137 0 11 [],
bR 138 1 137 [0],
aq 4 138 [1,0,1]])
(.ops [
aq 139 5 [],
cM 140 .add 139 1 [0],
aq 5 140 [1,0,1]]))))))))))
(.ops [
aq 92 10 [],
cM 93 .add 92 1 [0],
aq 10 93 [1,0,1]])))
def uu:bx :=
(.seq (.seq (.ops [
aq 141 16 [],
bQ 142 2 1 [],
bR 143 1 142 [1],
fT 144 143 [2],
dX 145 .lss 141 144 [0,3]])
(.cond (.t 145)
.skip
(.exit 4)))
(.seq (.block 5
(.seq (.ops [
bQ 148 2 1 [],
bR 149 1 148 [0],
aq 150 16 [],
fw 151 8 149 150 [1,2],
ck 152 8 151 [3],
aR 17 (.alloc [.pv (.int .i64 0),.pv (.int .i64 0),.pv (.int .i64 0),.pv (.int .u64 0),.pv (.int .u64 0),.pv (.int .u64 0),.pv (.int .u64 0),.pv (.int .i64 0)]) [],
dk 8 17 152 [5,4,0,1,2,3,4,5]])
(.seq (.ops [
bQ 153 0 17 [],
bR 154 1 153 [0],
aq 155 4 [],
aR 156 (.call 160 [.t 154,.t 155]) [1,2],
aq 18 156 [3,3,0,1,2,3]])
(.seq (.ops [
bQ 157 2 17 [],
bR 158 1 157 [0],
aR 159 (.call 159 [.t 158]) [1],
aq 19 159 [2,2,0,1,2]])
(.seq (.seq (.ops [
aq 160 18 [],
cM 161 .eql 160 0 [0],
aq 162 161 [1],
fa 163 162 true 19 [2],
ej 164 162 true (.not (.t 163)) [3,2],
iZ 165 162 164 [2,4]])
(.cond (.t 165)
(.ops [
cR 18 1 []])
.skip))
(.seq (.seq (.ops [
aq 166 18 [],
cM 167 .eql 166 0 [0],
aq 168 167 [1],
ej 169 168 true (.load true 3 (.t 1)) [2],
ew 170 168 true 1 17 [2],
ec 171 168 true 1 170 [4,2],
ej 172 168 true (.call 154 [.t 169,.t 171]) [3,5,2,2],
gD 173 168 true .lss 172 0 [6,2],
fa 174 168 true 173 [7,6,2],
ew 175 174 false 7 17 [8],
ec 176 174 false 1 175 [9,8],
gD 177 174 false .neq 176 0 [10,8],
fa 178 174 false 177 [11,8,8],
ej 179 178 true (.load true 3 (.t 1)) [12],
ew 180 178 true 7 17 [12],
ec 181 178 true 1 180 [14,12],
ej 182 178 true (.call 155 [.t 179,.t 181]) [13,15,12,12],
gD 183 178 true .lss 182 0 [16,12],
IZ 184 174 false 178 183 [12,17,8],
ej 185 168 true (.pick (.t 174) (.c (.pv (.bool true))) (.t 184)) [8,18,2],
iZ 186 168 185 [2,19]])
(.cond (.t 186)
(.ops [
cR 18 4 []])
.skip))
(.seq (.seq (.ops [
aq 187 18 [],
cM 188 .neq 187 0 [0]])
(.cond (.t 188)
(.seq (.ops [
aq 189 18 [],
aq 190 5 [],
aq 2 189 [0,0],
aq 3 190 [1,2,0,1,2]])
.ret)
.skip))
(.seq (.ops [
bQ 191 0 17 [],
bR 192 1 191 [0],
aq 4 192 [1,0,1]])
(.ops [
aq 193 5 [],
cM 194 .add 193 1 [0],
aq 5 194 [1,0,1]])))))))))
(.ops [
aq 146 16 [],
cM 147 .add 146 1 [0],
aq 16 147 [1,0,1]])))
def f151:bf:=⟨195,[.t 2,.t 3],
(.seq (.ops [
df 1 0 [],
cR 2 0 [],
cR 3 0 [1]])
(.seq (.seq (.ops [
bQ 20 0 1 [],
bR 21 1 20 [0],
fT 22 21 [1],
cM 23 .eql 22 0 [2],
aq 24 23 [3],
ew 25 24 false 0 1 [4],
ec 26 24 false 1 25 [5,4],
ej 27 24 false (.len (.t 26)) [6,4],
gD 28 24 false .gtr 27 8 [7,4],
jT 29 24 28 [4,8],
aq 30 29 [9,4],
ew 31 30 false 1 1 [10],
ec 32 30 false 1 31 [11,10],
ej 33 30 false (.len (.t 32)) [12,10],
gD 34 30 false .gtr 33 8 [13,10],
jT 35 30 34 [10,14],
aq 36 35 [15,10],
ew 37 36 false 2 1 [16],
ec 38 36 false 1 37 [17,16],
ej 39 36 false (.len (.t 38)) [18,16],
gD 40 36 false .gtr 39 12 [19,16],
jT 41 36 40 [16,20]])
(.cond (.t 41)
(.seq (.ops [
cR 2 3 [],
cR 3 (-1) [0,0]])
.ret)
.skip))
(.seq (.ops [
cR 4 0 []])
(.seq (.ops [
cR 5 0 []])
(.seq (.seq (.ops [
cR 6 0 []])
(.block 0
(.loop uo)))
(.seq (.ops [
cR 4 0 []])
(.seq (.seq (.ops [
cR 10 0 []])
(.block 2
(.loop ur)))
(.seq (.ops [
cR 4 0 []])
(.seq (.seq (.ops [
cR 16 0 []])
(.block 4
(.loop uu)))
(.seq (.ops [
cR 2 0 [],
cR 3 (-1) [0,0]])
.ret))))))))))⟩
def nj:bx :=
(.seq (.seq (.ops [
aq 37 8 [],
bQ 38 0 3 [],
bR 39 1 38 [1],
fT 40 39 [2],
dX 41 .lss 37 40 [0,3]])
(.cond (.t 41)
.skip
(.exit 0)))
(.seq (.block 1
(.seq (.ops [
bQ 44 0 3 [],
bR 45 1 44 [0],
aq 46 8 [],
fw 47 6 45 46 [1,2],
ck 48 6 47 [3],
aR 9 (.alloc [.pv (.int .i64 0),.pv (.int .u64 0),.pv (.int .u64 0),.pv (.int .u64 0),.pv (.int .u64 0),.pv (.bool false)]) [],
dk 6 9 48 [5,4,0,1,2,3,4,5]])
(.seq (.seq (.draw [
aq 49 8 [],
cM 50 .gtr 49 0 [0],
aq 51 50 [1],
ew 52 51 true 0 9 [2],
ec 53 51 true 1 52 [3,2],
ew 54 51 true 0 3 [2],
ec 55 51 true 1 54 [5,2],
fa 56 51 true 8 [2],
gD 57 51 true .sub 56 1 [7,2],
zB 58 51 true 6 55 57 [6,8,2],
ew 59 51 true 0 58 [9,2],
ec 60 51 true 1 59 [10,2],
ej 61 51 true (.bin .eql none (.t 53) (.t 60)) [4,11,2],
iZ 62 51 61 [2,12]])
(.cond (.t 62)
(.seq (.ops [
aq 63 8 [],
cR 4 5 [],
aq 5 63 [0,1,0,1]])
.ret)
.skip))
(.seq (.seq (.draw [
aq 64 8 [],
cM 65 .gtr 64 0 [0],
aq 66 65 [1],
ew 67 66 true 0 9 [2],
ec 68 66 true 1 67 [3,2],
ew 69 66 true 0 3 [2],
ec 70 66 true 1 69 [5,2],
fa 71 66 true 8 [2],
gD 72 66 true .sub 71 1 [7,2],
zB 73 66 true 6 70 72 [6,8,2],
ew 74 66 true 0 73 [9,2],
ec 75 66 true 1 74 [10,2],
ej 76 66 true (.bin .lss none (.t 68) (.t 75)) [4,11,2],
iZ 77 66 76 [2,12]])
(.cond (.t 77)
(.seq (.ops [
aq 78 8 [],
cR 4 1 [],
aq 5 78 [0,1,0,1]])
.ret)
.skip))
(.seq (.seq (.ops [
ck 79 3 2 [],
bQ 80 0 9 [],
bR 81 1 80 [1],
aR 82 (.call 156 [.t 79,.t 81]) [0,2],
cM 83 .lss 82 0 [3]])
(.cond (.t 83)
(.seq (.ops [
aq 84 8 [],
cR 4 4 [],
aq 5 84 [0,1,0,1]])
.ret)
.skip))
(.seq (.ops [
bQ 85 5 9 [],
bR 86 1 85 [0],
aR 87 (.not (.t 86)) [1],
aq 88 87 [2],
ew 89 88 true 1 9 [3],
ej 90 88 true (.load true 4 (.t 89)) [4,3],
ej 91 88 true (.build [.pv (.int .u64 0),.pv (.int .u64 0),.pv (.int .u64 0),.pv (.int .u64 0)] []) [3],
ej 92 88 true (.bin .neq (some (.plain [false,false,false,false])) (.t 90) (.t 91)) [5,6,3],
iZ 93 88 92 [3,7]])
(.cond (.t 93)
(.seq (.ops [
aq 94 8 [],
cR 4 1 [],
aq 5 94 [0,1,0,1]])
.ret)
.skip)))))))
(.ops [
aq 42 8 [],
cM 43 .add 42 1 [0],
aq 8 43 [1,0,1]])))
def f152:bf:=⟨95,[.t 4,.t 5],
(.seq (.ops [
df 2 0 [],
df 3 1 [],
cR 4 0 [],
cR 5 0 [2]])
(.seq (.ops [
ck 11 3 2 [],
aR 12 (.call 151 [.t 11]) [0],
aq 10 12 [1],
fu 13 10 0 [2],
fu 14 10 1 [2],
aq 6 13 [3,1,0,1,2,3],
aq 7 14 [4,5,0,1,2,3,4,5]])
(.seq (.seq (.ops [
aq 15 6 [],
cM 16 .neq 15 0 [0]])
(.cond (.t 16)
(.seq (.ops [
aq 17 6 [],
aq 18 7 [],
aq 4 17 [0,0],
aq 5 18 [1,2,0,1,2]])
.ret)
.skip))
(.seq (.seq (.ops [
bQ 19 1 3 [],
bR 20 1 19 [0],
cM 21 .lss 20 0 [1],
aq 22 21 [2],
ew 23 22 false 1 3 [3],
ec 24 22 false 1 23 [4,3],
gD 25 22 false .gtr 24 40 [5,3],
jT 26 22 25 [3,6],
aq 27 26 [7,3],
ew 28 27 false 2 3 [8],
ec 29 27 false 1 28 [9,8],
gD 30 27 false .lss 29 0 [10,8],
jT 31 27 30 [8,11],
aq 32 31 [12,8],
ew 33 32 false 2 3 [13],
ec 34 32 false 1 33 [14,13],
gD 35 32 false .gtr 34 40 [15,13],
jT 36 32 35 [13,16]])
(.cond (.t 36)
(.seq (.ops [
cR 4 3 [],
cR 5 (-1) [0,0]])
.ret)
.skip))
(.seq (.seq (.ops [
cR 8 0 []])
(.block 0
(.loop nj)))
(.seq (.ops [
cR 4 0 [],
cR 5 (-1) [0,0]])
.ret))))))⟩
def xX:bx :=
(.seq (.seq (.ops [
aq 6 5 [],
bQ 7 1 2 [],
bR 8 1 7 [1],
fT 9 8 [2],
dX 10 .lss 6 9 [0,3]])
(.cond (.t 10)
.skip
(.exit 0)))
(.seq (.block 1
(.seq (.ops [
bQ 13 1 2 [],
bR 14 1 13 [0],
aq 15 5 [],
fw 16 5 14 15 [1,2],
bQ 17 0 16 [3],
bR 18 1 17 [4],
aq 19 1 [],
dX 20 .eql 18 19 [5,6]])
(.cond (.t 20)
(.seq (.ops [
aq 21 5 [],
aq 4 21 [0,0]])
.ret)
.skip)))
(.ops [
aq 11 5 [],
cM 12 .add 11 1 [0],
aq 5 12 [1,0,1]])))
def f154:bf:=⟨22,[.t 4],
(.seq (.ops [
df 2 0 [],
cR 4 0 []])
(.seq (.seq (.ops [
cR 5 0 []])
(.block 0
(.loop xX)))
(.seq (.ops [
cR 4 (-1) []])
.ret)))⟩
def xZ:bx :=
(.seq (.seq (.ops [
aq 6 5 [],
bQ 7 2 2 [],
bR 8 1 7 [1],
fT 9 8 [2],
dX 10 .lss 6 9 [0,3]])
(.cond (.t 10)
.skip
(.exit 0)))
(.seq (.block 1
(.seq (.ops [
bQ 13 2 2 [],
bR 14 1 13 [0],
aq 15 5 [],
fw 16 8 14 15 [1,2],
bQ 17 0 16 [3],
bR 18 1 17 [4],
aq 19 1 [],
dX 20 .eql 18 19 [5,6]])
(.cond (.t 20)
(.seq (.ops [
aq 21 5 [],
aq 4 21 [0,0]])
.ret)
.skip)))
(.ops [
aq 11 5 [],
cM 12 .add 11 1 [0],
aq 5 12 [1,0,1]])))
def f156:bf:=⟨22,[.t 4],
(.seq (.ops [
df 2 0 [],
cR 4 0 []])
(.seq (.seq (.ops [
cR 5 0 []])
(.block 0
(.loop xZ)))
(.seq (.ops [
cR 4 (-1) []])
.ret)))⟩
def f159:bf:=⟨9,[.t 2],
(.seq (.ops [
fV 2 false []])
(.seq (.ops [
aq 3 0 [],
cM 4 .geq 3 0 [0],
aq 5 4 [1],
fa 6 5 true 0 [2],
gD 7 5 true .leq 6 100 [3,2],
iZ 8 5 7 [2,4],
aq 2 8 [5,2,0,1,2,3,4,5]])
.ret))⟩
def f160:bf:=⟨17,[.t 4],
(.seq (.ops [
cR 4 0 []])
(.seq (.seq (.ops [
aq 5 0 [],
cM 6 .lss 5 1 [0],
aq 7 6 [1],
fa 8 7 false 0 [2],
gD 9 7 false .gtr 8 2147483647 [3,2],
jT 10 7 9 [2,4]])
(.cond (.t 10)
(.seq (.ops [
cR 4 1 []])
.ret)
.skip))
(.seq (.seq (.ops [
aq 11 0 [],
aq 12 1 [],
dX 13 .eql 11 12 [0,1]])
(.cond (.t 13)
(.seq (.ops [
cR 4 5 []])
.ret)
.skip))
(.seq (.seq (.ops [
aq 14 0 [],
aq 15 1 [],
dX 16 .lss 14 15 [0,1]])
(.cond (.t 16)
(.seq (.ops [
cR 4 1 []])
.ret)
.skip))
(.seq (.ops [
cR 4 0 []])
.ret)))))⟩
def f257:bf:=⟨15,[.t 4],
(.seq (.ops [
df 2 0 [],
df 3 1 [],
fV 4 false []])
(.seq (.ops [
ck 8 4 3 [],
ck 9 4 2 [],
aR 10 (.call 258 [.t 8,.t 9]) [0,1],
aq 7 10 [2],
fu 11 7 0 [3],
fu 12 7 1 [3],
aR 5 (.alloc [.pv (.int .u64 0),.pv (.int .u64 0),.pv (.int .u64 0),.pv (.int .u64 0)]) [],
dk 4 5 11 [6,4,2,0,1,2,3,4,6],
aq 6 12 [5,7,0,1,2,3,4,5,6,7]])
(.seq (.ops [
aq 13 6 [],
aR 14 (.bin .eql (some (.iface true)) (.t 13) (.c (.pv .dI))) [0],
aq 4 14 [1,0,1]])
.ret)))⟩
def f282:bf:=⟨9,[.t 4],
(.seq (.ops [
fV 4 false []])
(.seq (.ops [
aq 5 0 [],
aq 6 1 [],
aR 7 (.call 287 [.t 5,.t 6]) [0,1],
cM 8 .geq 7 0 [2],
aq 4 8 [3,2,0,1,2,3]])
.ret))⟩
section
def iq(n:Int):Bool:=decide (0<=n)&&decide (n<=100)
def vR(n last:Int):Int:=if n=last/\1<=n then 5 else if n<1\/2147483647<n\/n<last then 1 else 0
def Qs(n last:Int):Int:=if n<1\/2147483647<n then 1 else if n=last then 5 else if n<last then 1 else 0
theorem yT{n last:Int}(h:last<=2147483647):vR n last=Qs n last:=by
 unfold vR Qs;by_cases h1:n<1\/2147483647<n
 ·rw[aW h1,ar (by omega),aW (by omega)]
 ·rw[ar h1];by_cases h2:n=last
  ·rw[aW h2,aW (by omega)]
  ·rw[ar h2,ar (by omega)];by_cases h3:n<last
   ·rw[aW h3,aW (by omega)]
   ·rw[ar h3,ar (by omega)]
def cX(l:fF):Int:=if iq l.sq=true/\iq l.min=true/\iq l.max=true/\l.min<=l.max then 0 else 1
def cY(n:Node):Int:=if 1<=n.bW/\n.bW<=8/\pM n.held n.cap=true then 0 else 1
def eh(s:bc)(p:dm):Int:=if iq p.prio=false then 1 else if gw p.load s.aT=none\/(p.node≠0/\dv p.node s.nodes=none)then 4 else 0
theorem gM:jH 0=.dI:=rfl
theorem gY:jH 1=.iface 0 (.int .i64 1):=rfl
theorem jl:jH 4=.iface 0 (.int .i64 4):=rfl
theorem Lk:jH 5=.iface 0 (.int .i64 5):=rfl
section
variable{T:cK}
theorem qF(J1:Std T 85 f85)(n:Int):ba T 85 [.int .i64 n] (.bool (iq n)):=by
 refine gives J1 rfl ?_;unfold iq;by_cases h1:0<=n
 ·simp only[f85,rL',aa,simprocAttr,h1,bq]
 ·simp only[f85,rL',aa,simprocAttr,h1,cA]
theorem Pq(Ms:Std T 86 f86)(n last:Int):ba T 86 [.int .i64 n,.int .i64 last] (jH (vR n last)):=by
 refine gives Ms rfl ?_;unfold vR;have D:∀p:Prop,[Decidable p]->p->decide p=true:=fun p _ h=>bJ h;by_cases h1:n=last
 ·have d1:=D _ h1;by_cases h2:1<=n
  ·rw[aW ⟨h1,h2⟩];simp only[f86,rL',aa,simprocAttr,d1,h2,Lk]
  ·rw[ar (fun h=>h2 h.2),aW (.inl (by omega))];have h3:n<1:=by omega
   simp only[f86,rL',aa,simprocAttr,d1,h2,h3,gY]
 ·rw[ar (fun h=>h1 h.1)];by_cases h3:n<1
  ·rw[aW (.inl h3)];simp only[f86,rL',aa,simprocAttr,h1,h3,gY]
  ·by_cases h4:2147483647<n
   ·rw[aW (.inr (.inl h4))];simp only[f86,rL',aa,simprocAttr,h1,h3,h4,gY]
   ·by_cases h5:n<last
    ·rw[aW (.inr (.inr h5))];simp only[f86,rL',aa,simprocAttr,h1,h3,h4,h5,gY]
    ·rw[ar (by omega)];simp only[f86,rL',aa,simprocAttr,h1,h3,h4,h5,gM]
theorem GN(RC:Std T 87 f87)(J1:Std T 85 f85)(l:fF):ba T 87 [.agg (bO l)] (jH (cX l)):=by
 refine gives RC rfl ?_;have k1:=qF J1 l.sq;have k2:=qF J1 l.min;have k3:=qF J1 l.max;unfold cX;cases c1:iq l.sq
 ·rw[ar (by simp)];simp only[f87,rL',aa,simprocAttr,gM,gY,jl,bO,k1.call,c1]
 ·cases c2:iq l.min
  ·rw[ar (by simp)];simp only[f87,rL',aa,simprocAttr,gM,gY,jl,bO,k1.call,k2.call,c1,c2]
  ·cases c3:iq l.max
   ·rw[ar (by simp)];simp only[f87,rL',aa,simprocAttr,gM,gY,jl,bO,k1.call,k2.call,k3.call,c1,c2,c3]
   ·by_cases c4:l.max<l.min
    ·rw[ar (by omega)];simp only[f87,rL',aa,simprocAttr,gM,gY,jl,bO,k1.call,k2.call,k3.call,c1,c2,c3,c4]
    ·rw[aW ⟨rfl,rfl,rfl,by omega⟩];simp only[f87,rL',aa,simprocAttr,gM,gY,jl,bO,k1.call,k2.call,k3.call,c1,c2,c3,c4]
structure M5(T:cK):Prop where
 Rx:Std T 257 f257
 EZ:Std T 258 f258
 yR:Std T 261 f261
 yQ:Std T 259 f259
theorem IC(S:M5 T)(a b:jD):ba T 257 [cB a,cB b] (.bool (pM a b)):=by
 refine gives S.Rx rfl ?_;have k:=CW S.EZ S.yR S.yQ b a;rw[E4]at k;simp only[cB,cd]at k;cases hf:pM a b
 ·rw[hf,ar (by simp)]at k;simp only[ia,cB,cd,cE,ct]at k;simp only[f257,rL',aa,simprocAttr,cB,cd,k.call,ft]
 ·rw[hf]at k;simp only[ia,cB,cd]at k;simp only[f257,rL',aa,simprocAttr,cB,cd,k.call,ft]
theorem GO(RD:Std T 88 f88)(S:M5 T)(n:Node):ba T 88 [.agg (bC n)] (jH (cY n)):=by
 refine gives RD rfl ?_;have k:=IC S n.held n.cap;simp only[cB,cd]at k;unfold cY;by_cases c1:n.bW<1
 ·rw[ar (by omega)];simp only[f88,rL',aa,simprocAttr,gM,gY,jl,bC,c1]
 ·by_cases c2:8<n.bW
  ·rw[ar (by omega)];simp only[f88,rL',aa,simprocAttr,gM,gY,jl,bC,c1,c2]
  ·cases hf:pM n.held n.cap
   ·rw[ar (by simp)];rw[hf]at k;simp only[f88,rL',aa,simprocAttr,gM,gY,jl,bC,c1,c2,k.call]
   ·rw[aW ⟨by omega,by omega,rfl⟩];rw[hf]at k;simp only[f88,rL',aa,simprocAttr,gM,gY,jl,bC,c1,c2,k.call]
theorem JB(RE:Std T 89 f89)(J1:Std T 85 f85)(DE:Std T 81 f81)(K5:Std T 82 f82)(s:bc)(p:dm)(hl:s.aT.length<=2^30)(hn:s.nodes.length<=2^30):ba T 89 [aF s,.agg (aK p)] (jH (eh s p)):=by
 refine gives RE rfl ?_;have k1:=qF J1 p.prio;have k2:=DQ DE s p.load hl;have k3:=tA K5 s p.node hn;simp only[aF]at k2 k3;unfold eh;cases c1:iq p.prio
 ·rw[aW rfl];simp only[f89,rL',aa,simprocAttr,gM,gY,jl,aF,aK,k1.call,c1]
 ·rw[ar (by simp)];cases Ho:gw p.load s.aT with
  |none =>
   rw[Ho]at k2;simp only[lU,bO,jX]at k2;rw[aW (.inl rfl)];cases qW:dv p.node s.nodes with
   |none =>
    rw[qW]at k3;simp only[jZ,bC,mN]at k3;simp only[f89,rL',aa,simprocAttr,gM,gY,jl,aF,aK,k1.call,c1,k2.call,k3.call]
   |some n =>
    rw[qW]at k3;simp only[jZ,bC]at k3;simp only[f89,rL',aa,simprocAttr,gM,gY,jl,aF,aK,k1.call,c1,k2.call,k3.call]
  |some l =>
   rw[Ho]at k2;simp only[lU,bO]at k2;cases qW:dv p.node s.nodes with
   |none =>
    rw[qW]at k3;simp only[jZ,bC,mN]at k3;by_cases c2:p.node=0
    ·have d2:decide (p.node=0)=true:=bJ c2;rw[ar (by simp[c2])];simp only[f89,rL',aa,simprocAttr,gM,gY,jl,aF,aK,k1.call,c1,k2.call,k3.call,d2]
    ·rw[aW (.inr ⟨c2,rfl⟩)];simp only[f89,rL',aa,simprocAttr,gM,gY,jl,aF,aK,k1.call,c1,k2.call,k3.call,c2]
   |some n =>
    rw[qW]at k3;simp only[jZ,bC]at k3;rw[ar (by simp)];by_cases c2:p.node=0
    ·have d2:decide (p.node=0)=true:=bJ c2;simp only[f89,rL',aa,simprocAttr,gM,gY,jl,aF,aK,k1.call,c1,k2.call,k3.call,d2]
    ·simp only[f89,rL',aa,simprocAttr,gM,gY,jl,aF,aK,k1.call,c1,k2.call,k3.call,c2]
end
end
section
def fM(n last c:Int):Int:=if vR n last≠0 then vR n last else c
def jm(a n last c:Int):Option (Int×Int):=if fM n last c≠0 then some (fM n last c,a)else none
def sY(err:AV)(hp:Hl)(o:Option (Int×Int))(kid nx:Nat):Prop:=match o with
 |none=>err=.pv .dI
 |some (c,a)=>∃b,err=.iface 1 (.ptr b 0 0)/\b<nx/\b≠kid/\ah hp b=.var [.pv (.int .i64 a),.pv (.int .i64 c)]
theorem sY.mono{err:AV}{hp hp':Hl}{o:Option (Int×Int)}{kid nx cC:Nat}(h:sY err hp o kid nx)(h1:∀j,j<nx->j≠kid->ah hp' j=ah hp j)(h2:nx<=cC):sY err hp' o kid cC:=by
 cases o with
 |none=>exact h
 |some q =>
  obtain⟨c,a⟩:=q;obtain⟨b,e1,e2,e3,e4⟩:=h;exact⟨b,e1,by omega,e3,by rw[h1 b e2 e3,e4]⟩
def D2(T:cK)(g:Nat)(cs:List AV)(p:PV)(hp:Hl)(nx:Nat):Prop:=T.raw g=true/\∀hp' cC,nx<=cC->(∀k,k<nx->ah hp' k=ah hp k)->D T g cs hp' cC=some (.pv p,hp',cC)
section
variable{T:cK}
set_option maxRecDepth 100000 in
set_option maxHeartbeats 4000000 in
theorem za(TP:pS T 16 f16)(Ms:Std T 86 f86)(hA:vV T 266)(kid:Nat)(a n last c:Int)(err fv:AV)(g:Nat)(cs:List AV)(hp:Hl)(nx:Nat)(o:Option (Int×Int))(hf:aU fv=some (g,[],cs))(hk:kid<nx)
    (hb:ah hp kid=.var [.pv (.int .i64 a),.pv (.int .i64 last),err]) (ho:D2 T g cs (jH c) hp nx) (hE:sY err hp o kid nx) (h0:0<=a) (h1:a<=2^30) :
    ∃v hp' cC,D T 16 [.ptr kid 0 0,.pv (.int .i64 n),fv] hp nx=some (v,hp',cC)/\∃A9,nx<=cC/\ah hp' kid=.var [.pv (.int .i64 (a+1)),.pv (.int .i64 n),A9]/\sY A9 hp' (o.or (jm a n last c)) kid cC/\∀j,j<nx->j≠kid->ah hp' j=ah hp j:=by
 refine xB TP rfl ?_;have ki:=Pq Ms n last;have hw:IntKind.i64.wrap (a+1)=a+1:=by rw[dS] <;>omega
 have e1:¬nx=kid:=by omega
 have e2:¬nx+1=kid:=by omega
 have f1:¬kid=nx:=by omega
 have f2:¬kid=nx+1:=by omega
 cases o with
 |some q =>
  obtain⟨c0,a0⟩:=q;obtain⟨b,rfl,b1,b2,b3⟩:=hE;simp only[f16,rL',aa,simprocAttr,hb,hw];simp only[ks,jK,rL',aa,simprocAttr];refine⟨.iface 1 (.ptr b 0 0),rfl,⟨b,rfl,b1,b2,?_⟩,fun j hj eA=>?_⟩
  ·have:¬kid=b:=fun h=>b2 h.symm;simp only[aj,Nat.reduceEqDiff,this,b3]
  ·have:¬kid=j:=fun h=>eA h.symm;simp only[this,aJ]
 |none =>
  have tg:err=.pv .dI:=hE;subst tg;have fin:∀cc,fM n last c=cc->cc≠0->(none:Option (Int×Int)).or (jm a n last c)=some (cc,a):=fun cc h1 h2=>by
   unfold jm;rw[h1,aW h2];rfl
  by_cases hi:vR n last=0
  ·have hl:fM n last c=c:=by unfold fM;rw[ar (by simpa using hi)]
   rw[hi,gM]at ki;simp only[f16,rL',aa,simprocAttr,hb,ki.call,hf,Ak];rw[dr ho.1 (by simpa only[bG]using ho.2 hp nx (ax _) (fun _ _=>rfl))];by_cases hc:c=0
   ·have hn:(none:Option (Int×Int)).or (jm a n last c)=none:=by
     unfold jm;rw[hl,ar (by simpa using hc)];rfl
    rw[hc,gM];simp only[rL',aa,simprocAttr,tp hA,hb,e1,hw];simp only[ks,jK,rL',aa,simprocAttr,e1,f1];rw[<-hc,hn];refine⟨.pv .dI,by omega,rfl,rfl,fun j hj eA=>?_⟩;have g1:¬nx=j:=by omega
    have g2:¬kid=j:=fun h=>eA h.symm;simp only[g1,g2,aJ]
   ·have wb:jH c=.iface 0 (.int .i64 c):=ar hc;rw[wb];simp only[rL',aa,simprocAttr];refine(o8 hA (o:=0) ?_).2 ?_
    ·simp only[rL',aa,simprocAttr]
    ·simp only[rL',aa,simprocAttr,hb,e1];refine(cy rfl).2 ?_;simp only[rL',aa,simprocAttr,hb,e1,e2,f1,f2,hw];simp only[ks,jK,rL',aa,simprocAttr,e1,e2,f1,f2];rw[fin c hl hc];refine⟨.iface 1 (.ptr (nx+1) 0 0),by omega,rfl,⟨nx+1,rfl,by omega,by omega,?_⟩,fun j hj eA=>?_⟩
     ·simp only[aj,Nat.reduceEqDiff,f2]
     ·have g1:¬nx=j:=by omega
      have g3:¬nx+1=j:=by omega
      have g2:¬kid=j:=fun h=>eA h.symm;simp only[g1,g2,g3,aJ]
  ·have hl:fM n last c=vR n last:=by unfold fM;rw[aW hi]
   have wb:jH (vR n last)=.iface 0 (.int .i64 (vR n last)):=ar hi;rw[wb]at ki;simp only[f16,rL',aa,simprocAttr,hb,ki.call];refine(o8 hA (o:=0) ?_).2 ?_
   ·simp only[rL',aa,simprocAttr]
   ·simp only[rL',aa,simprocAttr,hb,e1];refine(cy rfl).2 ?_;simp only[rL',aa,simprocAttr,hb,e1,e2,f1,f2,hw];simp only[ks,jK,rL',aa,simprocAttr,e1,e2,f1,f2];rw[fin _ hl hi];refine⟨.iface 1 (.ptr (nx+1) 0 0),by omega,rfl,⟨nx+1,rfl,by omega,by omega,?_⟩,fun j hj eA=>?_⟩
    ·simp only[aj,Nat.reduceEqDiff,f2]
    ·have g1:¬nx=j:=by omega
     have g3:¬nx+1=j:=by omega
     have g2:¬kid=j:=fun h=>eA h.symm;simp only[g1,g2,g3,aJ]
end
end
section
def fS{α:Type}(cu own:α->Int):Int->Int->List α->Option (Int×Int)
 |_,_,[]=>none
 |last,a,x::r=>(jm a (cu x) last (own x)).or (fS cu own (cu x) (a+1) r)
def mG:Option (Int×Int)->PV
 |none=>.dI
 |some (c,a)=>if a<0 then ct c else ix a c
def kI(s:bc):Bool:=decide (1<=s.nodes.length)&&(decide (s.nodes.length<=8)&&(decide (s.aT.length<=8)&&decide (s.pods.length<=12)))
def gp(s:bc):Option (Int×Int):=if kI s=true then((fS Node.id cY 0 0 s.nodes).or (fS fF.id cX 0 s.nodes.length s.aT)).or (fS dm.id (eh s) 0 ((s.nodes.length:Int)+s.aT.length) s.pods)else some (3,-1)
structure zH(T:cK):Prop where
 Nu:pS T 16 f16
 Ms:Std T 86 f86
 hA:vV T 266
 T8:pS T 77 f77
 T9:pS T 78 f78
 Ta:pS T 79 f79
 J1:Std T 85 f85
 RC:Std T 87 f87
 RD:Std T 88 f88
 RE:Std T 89 f89
 DE:Std T 81 f81
 K5:Std T 82 f82
 hF:M5 T
 Ua:Std T 76 f76
section
variable{T:cK}
theorem M0{n:Nat}{f:bf}{args:List AV}{hp hp':Hl}{nx cC:Nat}{v:AV}(S:pS T n f)(hN:Nat.ble args.length f.N=true)(h:Wp T false f.body ⟨fA 0 args,hp,nx⟩ (ks f.res (fun v1 h1 n1=>v1=v/\h1=hp'/\n1=cC))):D T n args hp nx=some (v,hp',cC):=by
 obtain⟨v1,h1,n1,e,rfl,rfl,rfl⟩:=xB S hN h;exact e
theorem Sq(S:zH T)(n:Node)(hp:Hl)(nx x:Nat)(hx:x<nx)(hb:ah hp x=.var (dL (bC n))):D2 T 77 [.ptr x 0 0] (jH (cY n)) hp nx:=by
 refine⟨S.T8.raw,fun hp' cC h1 h2=>M0 S.T8 rfl ?_⟩;have k:=GO S.RD S.hF n;have Av:=(h2 x hx).trans hb;simp only[bC,dL]at Av k;simp only[f77,rL',aa,simprocAttr,Av,k.call];simp only[ks,jK,rL',aa,simprocAttr]
theorem Sr(S:zH T)(n:fF)(hp:Hl)(nx x:Nat)(hx:x<nx)(hb:ah hp x=.var (dL (bO n))):D2 T 78 [.ptr x 0 0] (jH (cX n)) hp nx:=by
 refine⟨S.T9.raw,fun hp' cC h1 h2=>M0 S.T9 rfl ?_⟩;have k:=GN S.RC S.J1 n;have Av:=(h2 x hx).trans hb;simp only[bO,dL]at Av k;simp only[f78,rL',aa,simprocAttr,Av,k.call];simp only[ks,jK,rL',aa,simprocAttr]
theorem Ss(S:zH T)(s:bc)(hl:s.aT.length<=2^30)(hn:s.nodes.length<=2^30)(p:dm)(hp:Hl)(nx x:Nat)(h0:0<nx)(hx:x<nx)(hs:ah hp 0=.var [.pv (.slice (s.nodes.map bC)),.pv (.slice (s.aT.map bO)),.pv (.slice (s.pods.map aK))])
    (hb:ah hp x=.var (dL (aK p))):D2 T 79 [.ptr 0 0 0,.ptr x 0 0] (jH (eh s p)) hp nx:=by
 refine⟨S.Ta.raw,fun hp' cC h1 h2=>M0 S.Ta rfl ?_⟩;have k:=JB S.RE S.J1 S.DE S.K5 s p hl hn;have Av:=(h2 x hx).trans hb;have qY:=(h2 0 h0).trans hs;simp only[aK,dL,aF]at Av k;simp only[f79,rL',aa,simprocAttr,Av,qY,k.call];simp only[ks,jK,rL',aa,simprocAttr]
theorem Jy(S:zH T)(s:bc)(hn:s.nodes.length<=2^28)(hl:s.aT.length<=2^28)(Ca:s.pods.length<=2^28)(a0:Int)(G4:0<=a0)(OH:a0<=2^29)(Q:Exit->St->Prop)(gU:Option (Int×Int))
    (bS:∀fr hp nx last err,2<=nx->look fr 1=.ptr 0 0 0->look fr 3=.ptr 1 0 0->ah hp 0=.var [.pv (.slice (s.nodes.map bC)),.pv (.slice (s.aT.map bO)),.pv (.slice (s.pods.map aK))] ->
     ah hp 1=.var [.pv (.int .i64 (a0+(s.nodes.length:Int))),.pv (.int .i64 last),err]->sY err hp gU 1 nx->Q (.exit 0) ⟨fr,hp,nx⟩) :
    ∀(rest:List Node) (i:Nat) (last:Int) (o:Option (Int×Int)) (err:AV),s.nodes.drop i=rest->i<=s.nodes.length->o.or (fS Node.id cY last (a0+i) rest)=gU->∀(fr:List (Nat×AV)) (hp:Hl) (nx:Nat),2<=nx->look fr 1=.ptr 0 0 0->look fr 3=.ptr 1 0 0 ->
     ah hp 0=.var [.pv (.slice (s.nodes.map bC)),.pv (.slice (s.aT.map bO)),.pv (.slice (s.pods.map aK))]->ah hp 1=.var [.pv (.int .i64 (a0+i)),.pv (.int .i64 last),err]->sY err hp o 1 nx ->
     look fr 36=.pv (.slice (s.nodes.map bC))->look fr 37=.pv (.int .i64 s.nodes.length)->look fr 38=.pv (.int .i64 i)->Wp T false (.loop Dq) ⟨fr,hp,nx⟩ Q:=by
 intro rest;induction rest with
 |nil =>
  intro i last o err hd hi ho fr hp nx ie g1 g3 b0 b1 hE hA hB hI;have hlen:=drop_nil hd hi;simp only[fS,Option.or_none]at ho;subst ho;rw[az,aY Dq.eq_1];simp only[rL',aa,simprocAttr,hA,hB,hI,hlen,aP];refine bS _ _ _ last err ie ?_ ?_ b0 ?_ hE
  all_goals try simp only[aj,Nat.reduceEqDiff,g1,g3]
  rw[b1,hlen]
 |cons x r ih =>
  intro i last o err hd hi ho fr hp nx ie g1 g3 b0 b1 hE hA hB hI;obtain⟨aN,hlt,hw,dh,cW,Bp⟩:=drop_cons hd (by omega);have n0:¬nx=0:=by omega
  have n1:¬nx=1:=by omega
  have wR:(o.or (jm (a0+i) x.id last (cY x))).or (fS Node.id cY x.id (a0+((i+1:Nat):Int)) r)=gU:=by
   rw[<-ho,Option.or_assoc,fS,show a0+((i+1:Nat):Int)=a0+i+1 by omega]
  rw[az,aY Dq.eq_1];simp only[rL',aa,simprocAttr,g1,g3,hA,hB,hI,hlt,aN,bC,n0,n1,mkFun,mZ];obtain⟨v,hp',cC,e,A9,q1,q2,q3,q4⟩:=za S.Nu S.Ms S.hA 1 (a0+i) x.id last (cY x) err (.func 77 [] [.ptr nx 0 0]) 77 [.ptr nx 0 0] ((nx,.var (dL (bC x)))::(nx,.var [.pv (.int .i64 0),.pv (.int .i64 0),.pv (.int .u64 0),.pv (.int .u64 0),.pv (.int .u64 0),.pv (.int .u64 0),.pv (.int .u64 0),.pv (.int .u64 0),.pv (.int .u64 0),.pv (.int .u64 0)])::hp) (nx+1) o rfl (by omega) (by simp only[aj,Nat.reduceEqDiff,n1,b1]) (Sq S x _ _ nx (by omega) (by simp only[aj,Nat.reduceEqDiff])) (hE.mono (fun j hj eA=>by simp only[aj,Nat.reduceEqDiff,show ¬nx=j by omega]) (by omega)) (by omega) (by omega);rw[dr S.Nu.raw e];simp only[rL',aa,simprocAttr,hI,hw];refine ih (i+1) x.id _ A9 dh cW wR _ _ _ (by omega) ?_ ?_ ?_ ?_ q3 ?_ ?_ ?_
  all_goals try simp only[aj,Nat.reduceEqDiff,g1,g3,hA,hB]
  ·rw[q4 0 (by omega) (by omega)];simp only[aj,Nat.reduceEqDiff,n0,b0]
  ·rw[q2,show a0+((i+1:Nat):Int)=a0+i+1 by omega]
theorem check_1(S:zH T)(s:bc)(hn:s.nodes.length<=2^28)(hl:s.aT.length<=2^28)(Ca:s.pods.length<=2^28)(a0:Int)(G4:0<=a0)(OH:a0<=2^29)(Q:Exit->St->Prop)(gU:Option (Int×Int))
    (bS:∀fr hp nx last err,2<=nx->look fr 1=.ptr 0 0 0->look fr 3=.ptr 1 0 0->ah hp 0=.var [.pv (.slice (s.nodes.map bC)),.pv (.slice (s.aT.map bO)),.pv (.slice (s.pods.map aK))] ->
     ah hp 1=.var [.pv (.int .i64 (a0+(s.aT.length:Int))),.pv (.int .i64 last),err]->sY err hp gU 1 nx->Q (.exit 2) ⟨fr,hp,nx⟩) :
    ∀(rest:List fF) (i:Nat) (last:Int) (o:Option (Int×Int)) (err:AV),s.aT.drop i=rest->i<=s.aT.length->o.or (fS fF.id cX last (a0+i) rest)=gU->∀(fr:List (Nat×AV)) (hp:Hl) (nx:Nat),2<=nx->look fr 1=.ptr 0 0 0->look fr 3=.ptr 1 0 0 ->
     ah hp 0=.var [.pv (.slice (s.nodes.map bC)),.pv (.slice (s.aT.map bO)),.pv (.slice (s.pods.map aK))]->ah hp 1=.var [.pv (.int .i64 (a0+i)),.pv (.int .i64 last),err]->sY err hp o 1 nx ->
     look fr 52=.pv (.slice (s.aT.map bO))->look fr 53=.pv (.int .i64 s.aT.length)->look fr 54=.pv (.int .i64 i)->Wp T false (.loop Dr) ⟨fr,hp,nx⟩ Q:=by
 intro rest;induction rest with
 |nil =>
  intro i last o err hd hi ho fr hp nx ie g1 g3 b0 b1 hE hA hB hI;have hlen:=drop_nil hd hi;simp only[fS,Option.or_none]at ho;subst ho;rw[az,aY Dr.eq_1];simp only[rL',aa,simprocAttr,hA,hB,hI,hlen,aP];refine bS _ _ _ last err ie ?_ ?_ b0 ?_ hE
  all_goals try simp only[aj,Nat.reduceEqDiff,g1,g3]
  rw[b1,hlen]
 |cons x r ih =>
  intro i last o err hd hi ho fr hp nx ie g1 g3 b0 b1 hE hA hB hI;obtain⟨aN,hlt,hw,dh,cW,Bp⟩:=drop_cons hd (by omega);have n0:¬nx=0:=by omega
  have n1:¬nx=1:=by omega
  have wR:(o.or (jm (a0+i) x.id last (cX x))).or (fS fF.id cX x.id (a0+((i+1:Nat):Int)) r)=gU:=by
   rw[<-ho,Option.or_assoc,fS,show a0+((i+1:Nat):Int)=a0+i+1 by omega]
  rw[az,aY Dr.eq_1];simp only[rL',aa,simprocAttr,g1,g3,hA,hB,hI,hlt,aN,bO,n0,n1,mkFun,mZ];obtain⟨v,hp',cC,e,A9,q1,q2,q3,q4⟩:=za S.Nu S.Ms S.hA 1 (a0+i) x.id last (cX x) err (.func 78 [] [.ptr nx 0 0]) 78 [.ptr nx 0 0] ((nx,.var (dL (bO x)))::(nx,.var [.pv (.int .i64 0),.pv (.bool false),.pv (.int .i64 0),.pv (.int .i64 0),.pv (.int .i64 0)])::hp) (nx+1) o rfl (by omega) (by simp only[aj,Nat.reduceEqDiff,n1,b1]) (Sr S x _ _ nx (by omega) (by simp only[aj,Nat.reduceEqDiff])) (hE.mono (fun j hj eA=>by simp only[aj,Nat.reduceEqDiff,show ¬nx=j by omega]) (by omega)) (by omega) (by omega);rw[dr S.Nu.raw e];simp only[rL',aa,simprocAttr,hI,hw];refine ih (i+1) x.id _ A9 dh cW wR _ _ _ (by omega) ?_ ?_ ?_ ?_ q3 ?_ ?_ ?_
  all_goals try simp only[aj,Nat.reduceEqDiff,g1,g3,hA,hB]
  ·rw[q4 0 (by omega) (by omega)];simp only[aj,Nat.reduceEqDiff,n0,b0]
  ·rw[q2,show a0+((i+1:Nat):Int)=a0+i+1 by omega]
theorem Jz(S:zH T)(s:bc)(hn:s.nodes.length<=2^28)(hl:s.aT.length<=2^28)(Ca:s.pods.length<=2^28)(a0:Int)(G4:0<=a0)(OH:a0<=2^29)(Q:Exit->St->Prop)(gU:Option (Int×Int))
    (bS:∀fr hp nx last err,2<=nx->look fr 1=.ptr 0 0 0->look fr 3=.ptr 1 0 0->ah hp 0=.var [.pv (.slice (s.nodes.map bC)),.pv (.slice (s.aT.map bO)),.pv (.slice (s.pods.map aK))] ->
     ah hp 1=.var [.pv (.int .i64 (a0+(s.pods.length:Int))),.pv (.int .i64 last),err]->sY err hp gU 1 nx->Q (.exit 4) ⟨fr,hp,nx⟩) :
    ∀(rest:List dm) (i:Nat) (last:Int) (o:Option (Int×Int)) (err:AV),s.pods.drop i=rest->i<=s.pods.length->o.or (fS dm.id (eh s) last (a0+i) rest)=gU->∀(fr:List (Nat×AV)) (hp:Hl) (nx:Nat),2<=nx->look fr 1=.ptr 0 0 0->look fr 3=.ptr 1 0 0 ->
     ah hp 0=.var [.pv (.slice (s.nodes.map bC)),.pv (.slice (s.aT.map bO)),.pv (.slice (s.pods.map aK))]->ah hp 1=.var [.pv (.int .i64 (a0+i)),.pv (.int .i64 last),err]->sY err hp o 1 nx ->
     look fr 68=.pv (.slice (s.pods.map aK))->look fr 69=.pv (.int .i64 s.pods.length)->look fr 70=.pv (.int .i64 i)->Wp T false (.loop Ds) ⟨fr,hp,nx⟩ Q:=by
 intro rest;induction rest with
 |nil =>
  intro i last o err hd hi ho fr hp nx ie g1 g3 b0 b1 hE hA hB hI;have hlen:=drop_nil hd hi;simp only[fS,Option.or_none]at ho;subst ho;rw[az,aY Ds.eq_1];simp only[rL',aa,simprocAttr,hA,hB,hI,hlen,aP];refine bS _ _ _ last err ie ?_ ?_ b0 ?_ hE
  all_goals try simp only[aj,Nat.reduceEqDiff,g1,g3]
  rw[b1,hlen]
 |cons x r ih =>
  intro i last o err hd hi ho fr hp nx ie g1 g3 b0 b1 hE hA hB hI;obtain⟨aN,hlt,hw,dh,cW,Bp⟩:=drop_cons hd (by omega);have n0:¬nx=0:=by omega
  have n1:¬nx=1:=by omega
  have wR:(o.or (jm (a0+i) x.id last ((eh s) x))).or (fS dm.id (eh s) x.id (a0+((i+1:Nat):Int)) r)=gU:=by
   rw[<-ho,Option.or_assoc,fS,show a0+((i+1:Nat):Int)=a0+i+1 by omega]
  rw[az,aY Ds.eq_1];simp only[rL',aa,simprocAttr,g1,g3,hA,hB,hI,hlt,aN,aK,n0,n1,mkFun,mZ];obtain⟨v,hp',cC,e,A9,q1,q2,q3,q4⟩:=za S.Nu S.Ms S.hA 1 (a0+i) x.id last ((eh s) x) err (.func 79 [] [.ptr 0 0 0,.ptr nx 0 0]) 79 [.ptr 0 0 0,.ptr nx 0 0] ((nx,.var (dL (aK x)))::(nx,.var [.pv (.int .i64 0),.pv (.int .i64 0),.pv (.int .i64 0),.pv (.int .u64 0),.pv (.int .u64 0),.pv (.int .u64 0),.pv (.int .u64 0),.pv (.int .i64 0)])::hp) (nx+1) o rfl (by omega) (by simp only[aj,Nat.reduceEqDiff,n1,b1]) (Ss S s (by omega) (by omega) x _ _ nx (by omega) (by omega) (by simp only[aj,Nat.reduceEqDiff,n0,b0]) (by simp only[aj,Nat.reduceEqDiff])) (hE.mono (fun j hj eA=>by simp only[aj,Nat.reduceEqDiff,show ¬nx=j by omega]) (by omega)) (by omega) (by omega);rw[dr S.Nu.raw e];simp only[rL',aa,simprocAttr,hI,hw];refine ih (i+1) x.id _ A9 dh cW wR _ _ _ (by omega) ?_ ?_ ?_ ?_ q3 ?_ ?_ ?_
  all_goals try simp only[aj,Nat.reduceEqDiff,g1,g3,hA,hB]
  ·rw[q4 0 (by omega) (by omega)];simp only[aj,Nat.reduceEqDiff,n0,b0]
  ·rw[q2,show a0+((i+1:Nat):Int)=a0+i+1 by omega]
end
end
end Go.Proofs.YtkjehofblipcaaaGreatDoor.Ab
