/- The layer, part 2: Co05, Sp5, Sp5b, Sp5d, Ab56, Co08, Sp8, Co09, Sp9, Sp8b, Co67, Sp7, Sp1, Sp1b, Ab54, Sp6, Sp6b, Co11, Sp11, Ab59, Sp11f, Co03, Sp3, Sp3b, Sp3c. -/
import Derived.Test.YtkjehofblipcaaaGreatDoorA1
set_option linter.unusedVariables false
set_option linter.unusedSimpArgs false
namespace Go.Proofs.YtkjehofblipcaaaGreatDoor.Ab
open Go
abbrev aP(d:Nat)(o:fC)(l:List Nat):aV:=⟨some d,o,none,l⟩
abbrev Nb(o:fC)(l:List Nat):aV:=⟨none,o,none,l⟩
abbrev dU(d k:Nat)(b:Bool)(o:fC)(l:List Nat):aV:=⟨some d,o,some (k,b),l⟩
abbrev aq(d s:Nat)(l:List Nat):aV:=aP d (.mv (.t s)) l
abbrev cT(d:Nat)(n:Int)(l:List Nat):aV:=aP d (.mv (.c (.pv (.int .i64 n)))) l
abbrev fR(d:Nat)(b:Bool)(l:List Nat):aV:=aP d (.mv (.c (.pv (.bool b)))) l
abbrev jm(d:Nat)(l:List Nat):aV:=aP d (.mv (.c (.pv .dJ))) l
abbrev bP(d k s:Nat)(l:List Nat):aV:=aP d (.fieldAddr k (.t s)) l
abbrev bQ(d n s:Nat)(l:List Nat):aV:=aP d (.load false n (.t s)) l
abbrev bZ(d n s:Nat)(l:List Nat):aV:=aP d (.load true n (.t s)) l
abbrev eu(d:Nat)(o:BinOp)(s r:Nat)(l:List Nat):aV:=aP d (.bin o none (.t s) (.t r)) l
abbrev cM(d:Nat)(o:BinOp)(s:Nat)(n:Int)(l:List Nat):aV:=aP d (.bin o none (.t s) (.c (.pv (.int .i64 n)))) l
abbrev df(d s:Nat)(l:List Nat):aV:=aP d (.box (.t s)) l
abbrev ft(d n s r:Nat)(l:List Nat):aV:=aP d (.fA n (.t s) (.t r)) l
abbrev fc(d s k:Nat)(l:List Nat):aV:=aP d (.extract (.t s) k) l
abbrev ib(d s r:Nat)(l:List Nat):aV:=aP d (.pick (.t s) (.t r) (.c (.pv (.bool false)))) l
abbrev jJ(d s r:Nat)(l:List Nat):aV:=aP d (.pick (.t s) (.c (.pv (.bool true))) (.t r)) l
abbrev fW(d s:Nat)(l:List Nat):aV:=aP d (.len (.t s)) l
abbrev jD(d s:Nat)(l:List Nat):aV:=aP d (.jU (.t s)) l
abbrev dg(n s r:Nat)(l:List Nat):aV:=Nb (.store n (.t s) (.t r)) l
abbrev eP(d k:Nat)(b:Bool)(s:Nat)(l:List Nat):aV:=dU d k b (.mv (.t s)) l
abbrev dX(d k:Nat)(b:Bool)(n s:Nat)(l:List Nat):aV:=dU d k b (.fieldAddr n (.t s)) l
abbrev dP(d k:Nat)(b:Bool)(n s:Nat)(l:List Nat):aV:=dU d k b (.load false n (.t s)) l
abbrev Hb(d k:Nat)(b:Bool)(s r:Nat)(l:List Nat):aV:=dU d k b (.pick (.t s) (.t r) (.c (.pv (.bool false)))) l
abbrev zD(d k:Nat)(b:Bool)(n s r:Nat)(l:List Nat):aV:=dU d k b (.fA n (.t s) (.t r)) l
abbrev fV(d k:Nat)(b:Bool)(o:BinOp)(s:Nat)(n:Int)(l:List Nat):aV:=dU d k b (.bin o none (.t s) (.c (.pv (.int .i64 n)))) l
def Dz:bz :=
(.seq (.ops [
eu 12 .lss 11 10 []])
(.seq (.cond (.t 12)
.skip
(.exit 0))
(.seq (.block 1
(.seq (.ops [
ft 13 10 9 11 [],
bZ 14 10 13 [0],
aP 7 (.alloc [.pv (.int .i64 0),.pv (.int .i64 0),.pv (.int .u64 0),.pv (.int .u64 0),.pv (.int .u64 0),.pv (.int .u64 0),.pv (.int .u64 0),.pv (.int .u64 0),.pv (.int .u64 0),.pv (.int .u64 0)]) [],
dg 10 7 14 [2,1,0,1,2]])
(.seq (.ops [
bP 15 0 7 [],
bQ 16 1 15 [0],
aq 17 1 [],
eu 18 .eql 16 17 [1,2]])
(.cond (.t 18)
(.seq (.ops [
bZ 19 10 7 [],
dg 10 4 19 [0,0],
fR 5 true [1,0,1]])
.ret)
.skip))))
(.ops [
cM 20 .add 11 1 [],
aq 11 20 [0]]))))
def f82:bg:=⟨22,[.cell 4 true 10,.t 5],
(.seq (.ops [
df 2 0 [],
aP 4 (.alloc [.pv (.int .i64 0),.pv (.int .i64 0),.pv (.int .u64 0),.pv (.int .u64 0),.pv (.int .u64 0),.pv (.int .u64 0),.pv (.int .u64 0),.pv (.int .u64 0),.pv (.int .u64 0),.pv (.int .u64 0)]) [],
fR 5 false []])
(.seq (.seq (.ops [
bP 8 0 2 [],
bQ 9 1 8 [0],
fW 10 9 [1],
cT 11 0 []])
(.block 0
(.loop Dz)))
(.seq (.ops [
aP 21 (.build [.pv (.int .i64 0),.pv (.int .i64 0),.pv (.int .u64 0),.pv (.int .u64 0),.pv (.int .u64 0),.pv (.int .u64 0),.pv (.int .u64 0),.pv (.int .u64 0),.pv (.int .u64 0),.pv (.int .u64 0)] []) [],
dg 10 4 21 [0,0],
fR 5 false [1,0,1]])
.ret)))⟩
def DA:bz :=
(.seq (.ops [
eu 12 .lss 11 10 []])
(.seq (.cond (.t 12)
.skip
(.exit 0))
(.seq (.block 1
(.seq (.ops [
ft 13 6 9 11 [],
bZ 14 6 13 [0],
aP 7 (.alloc [.pv (.int .i64 0),.pv (.int .u64 0),.pv (.int .u64 0),.pv (.int .u64 0),.pv (.int .u64 0),.pv (.bool false)]) [],
dg 6 7 14 [2,1,0,1,2]])
(.seq (.ops [
bP 15 0 7 [],
bQ 16 1 15 [0],
aq 17 1 [],
eu 18 .eql 16 17 [1,2]])
(.cond (.t 18)
(.seq (.ops [
bZ 19 6 7 [],
dg 6 4 19 [0,0],
fR 5 true [1,0,1]])
.ret)
.skip))))
(.ops [
cM 20 .add 11 1 [],
aq 11 20 [0]]))))
def f83:bg:=⟨22,[.cell 4 true 6,.t 5],
(.seq (.ops [
df 2 0 [],
aP 4 (.alloc [.pv (.int .i64 0),.pv (.int .u64 0),.pv (.int .u64 0),.pv (.int .u64 0),.pv (.int .u64 0),.pv (.bool false)]) [],
fR 5 false []])
(.seq (.seq (.ops [
bP 8 0 2 [],
bQ 9 1 8 [0],
fW 10 9 [1],
cT 11 0 []])
(.block 0
(.loop DA)))
(.seq (.ops [
aP 21 (.build [.pv (.int .i64 0),.pv (.int .u64 0),.pv (.int .u64 0),.pv (.int .u64 0),.pv (.int .u64 0),.pv (.bool false)] []) [],
dg 6 4 21 [0,0],
fR 5 false [1,0,1]])
.ret)))⟩
def f153:bg:=⟨19,[.t 2],
(.seq (.ops [
df 1 0 [],
fR 2 false []])
(.seq (.ops [
bP 3 0 1 [],
bQ 4 1 3 [0],
fW 5 4 [1],
cM 6 .leq 5 40 [2],
aq 7 6 [3],
dX 8 7 true 1 1 [4],
dP 9 7 true 1 8 [5,4],
dU 10 7 true (.len (.t 9)) [6,4],
fV 11 7 true .leq 10 40 [7,4],
ib 12 7 11 [4,8],
aq 13 12 [9,4],
dX 14 13 true 2 1 [10],
dP 15 13 true 1 14 [11,10],
dU 16 13 true (.len (.t 15)) [12,10],
fV 17 13 true .leq 16 40 [13,10],
ib 18 13 17 [10,14],
aq 2 18 [15,10,0,1,2,3,4,5,6,7,8,9,10,11,12,13,14,15]])
.ret))⟩
def f164:bg:=⟨8,[.cell 2 true 3],
(.seq (.ops [
df 1 0 [],
aP 2 (.alloc [.bu,.pv (.int .i64 0),.pv (.int .i64 0)]) []])
(.seq (.ops [
aP 3 (.cv 8 0 [] []) [],
bP 4 2 1 [],
bQ 5 1 4 [1],
aP 6 (.append 8 64 (.t 3) (.t 5)) [0,2],
aP 7 (.build [.bu,.pv (.int .i64 0),.pv (.int .i64 0)] [(0,1,(.t 6))]) [3],
dg 3 2 7 [4,3,0,1,2,3,4]])
.ret))⟩
def uj:bz :=
(.seq (.seq (.ops [
aq 8 5 [],
bP 9 0 2 [],
bQ 10 1 9 [1],
fW 11 10 [2],
eu 12 .lss 8 11 [0,3]])
(.cond (.t 12)
.skip
(.exit 0)))
(.seq (.block 1
(.seq (.draw [
bZ 15 3 3 [],
bP 16 0 2 [],
bQ 17 1 16 [1],
aq 18 5 [],
ft 19 6 17 18 [2,3],
bP 20 0 19 [4],
bQ 21 1 20 [5],
aP 22 (.call 167 [.t 15,.t 21]) [0,6],
aq 6 22 [7,7,0,1,2,3,4,5,6,7]])
(.seq (.seq (.ops [
aq 23 6 [],
cM 24 .lss 23 0 [0]])
(.cond (.t 24)
(.seq (.ops [
fR 4 false []])
.ret)
.skip))
(.seq (.ops [
bP 25 0 3 [],
bQ 26 1 25 [0],
aq 27 6 [],
ft 28 8 26 27 [1,2],
bZ 29 8 28 [3],
aP 7 (.alloc [.pv (.int .i64 0),.pv (.int .i64 0),.pv (.int .i64 0),.pv (.int .u64 0),.pv (.int .u64 0),.pv (.int .u64 0),.pv (.int .u64 0),.pv (.int .i64 0)]) [],
dg 8 7 29 [5,4,0,1,2,3,4,5]])
(.seq (.draw [
bP 30 0 2 [],
bQ 31 1 30 [0],
aq 32 5 [],
ft 33 6 31 32 [1,2],
bP 34 5 33 [3],
bQ 35 1 34 [4],
aq 36 35 [5],
dX 37 36 true 7 7 [6],
dP 38 36 true 1 37 [7,6],
fV 39 36 true .eql 38 0 [8,6],
eP 40 36 true 39 [9,6,6],
dX 41 40 false 3 7 [10],
dU 42 40 false (.load true 4 (.t 41)) [11,10],
dX 43 40 false 0 2 [10],
dP 44 40 false 1 43 [13,10],
eP 45 40 false 5 [10],
zD 46 40 false 6 44 45 [14,15,10],
dX 47 40 false 1 46 [16,10],
dU 48 40 false (.load true 4 (.t 47)) [17,10],
dU 49 40 false (.bin .neq (some (.plain [false,false,false,false])) (.t 42) (.t 48)) [12,18,10],
dU 50 36 true (.pick (.t 40) (.c (.pv (.bool true))) (.t 49)) [10,19,6],
ib 51 36 50 [6,20],
aq 52 51 [21,10],
dX 53 52 false 0 2 [22],
dP 54 52 false 1 53 [23,22],
eP 55 52 false 5 [22],
zD 56 52 false 6 54 55 [24,25,22],
dX 57 52 false 5 56 [26,22],
dP 58 52 false 1 57 [27,22],
dU 59 52 false (.not (.t 58)) [28,22],
eP 60 52 false 59 [29,22,22],
dX 61 60 true 7 7 [30],
dP 62 60 true 1 61 [31,30],
fV 63 60 true .neq 62 0 [32,30],
Hb 64 52 false 60 63 [30,33,22],
jJ 65 52 64 [22,34]])
(.cond (.t 65)
(.seq (.ops [
fR 4 false []])
.ret)
.skip))))))
(.ops [
aq 13 5 [],
cM 14 .add 13 1 [0],
aq 5 14 [1,0,1]])))
def f165:bg:=⟨66,[.t 4],
(.seq (.ops [
df 2 0 [],
df 3 1 [],
fR 4 false []])
(.seq (.seq (.ops [
cT 5 0 []])
(.block 0
(.loop uj)))
(.seq (.ops [
fR 4 true []])
.ret)))⟩
def ya:bz :=
(.seq (.seq (.ops [
aq 6 5 [],
bP 7 0 2 [],
bQ 8 1 7 [1],
fW 9 8 [2],
eu 10 .lss 6 9 [0,3]])
(.cond (.t 10)
.skip
(.exit 0)))
(.seq (.block 1
(.seq (.ops [
bP 13 0 2 [],
bQ 14 1 13 [0],
aq 15 5 [],
ft 16 8 14 15 [1,2],
bP 17 0 16 [3],
bQ 18 1 17 [4],
aq 19 1 [],
eu 20 .eql 18 19 [5,6]])
(.cond (.t 20)
(.seq (.ops [
aq 21 5 [],
aq 4 21 [0,0]])
.ret)
.skip)))
(.ops [
aq 11 5 [],
cM 12 .add 11 1 [0],
aq 5 12 [1,0,1]])))
def f167:bg:=⟨22,[.t 4],
(.seq (.ops [
df 2 0 [],
cT 4 0 []])
(.seq (.seq (.ops [
cT 5 0 []])
(.block 0
(.loop ya)))
(.seq (.ops [
cT 4 (-1) []])
.ret)))⟩
def f237:bg:=⟨7,[.cell 2 true 3],
(.seq (.ops [
df 1 0 [],
aP 2 (.alloc [.bu,.pv (.int .i64 0),.pv (.int .i64 0)]) []])
(.seq (.ops [
bP 3 2 1 [],
bQ 4 1 3 [0],
aP 5 (.call 279 [.t 4]) [1],
aP 6 (.build [.bu,.pv (.int .i64 0),.pv (.int .i64 0)] [(0,1,(.t 5))]) [2],
dg 3 2 6 [3,2,0,1,2,3]])
.ret))⟩
def uz:bz :=
(.seq (.ops [
eu 13 .lss 12 11 []])
(.seq (.cond (.t 13)
.skip
(.exit 0))
(.seq (.block 1
(.seq (.ops [
ft 14 6 10 12 [],
bZ 15 6 14 [0],
aP 6 (.alloc [.pv (.int .i64 0),.pv (.int .u64 0),.pv (.int .u64 0),.pv (.int .u64 0),.pv (.int .u64 0),.pv (.bool false)]) [],
dg 6 6 15 [2,1,0,1,2]])
(.seq (.ops [
bZ 17 3 3 [],
bP 18 0 6 [],
bQ 19 1 18 [1],
aP 20 (.call 240 [.t 17,.t 19]) [0,2],
aq 16 20 [3],
fc 21 16 0 [4],
fc 22 16 1 [4],
aP 7 (.alloc [.pv (.int .i64 0),.pv (.int .i64 0),.pv (.int .i64 0),.pv (.int .u64 0),.pv (.int .u64 0),.pv (.int .u64 0),.pv (.int .u64 0),.pv (.int .i64 0)]) [],
dg 8 7 21 [7,5,3,0,1,2,3,4,5,7],
aq 8 22 [6,8,0,1,2,3,4,5,6,7,8]])
(.seq (.ops [
aq 23 8 [],
aP 24 (.not (.t 23)) [0],
aq 25 24 [1],
dX 26 25 false 5 6 [2],
dP 27 25 false 1 26 [3,2],
dX 28 25 false 7 7 [2],
dP 29 25 false 1 28 [5,2],
fV 30 25 false .neq 29 0 [6,2],
dU 31 25 false (.bin .neq (some .bool) (.t 27) (.t 30)) [4,7,2],
jJ 32 25 31 [2,8],
aq 33 32 [9,2],
dX 34 33 false 5 6 [10],
dP 35 33 false 1 34 [11,10],
eP 36 33 false 35 [12,10,10],
dX 37 36 true 3 7 [13],
dU 38 36 true (.load true 4 (.t 37)) [14,13],
dX 39 36 true 1 6 [13],
dU 40 36 true (.load true 4 (.t 39)) [16,13],
dU 41 36 true (.bin .neq (some (.plain [false,false,false,false])) (.t 38) (.t 40)) [15,17,13],
Hb 42 33 false 36 41 [13,18,10],
jJ 43 33 42 [10,19]])
(.cond (.t 43)
(.seq (.ops [
fR 4 false []])
.ret)
.skip)))))
(.ops [
cM 44 .add 12 1 [],
aq 12 44 [0]]))))
def f238:bg:=⟨45,[.t 4],
(.seq (.ops [
df 2 0 [],
df 3 1 [],
fR 4 false []])
(.seq (.seq (.ops [
bP 9 0 2 [],
bQ 10 1 9 [0],
fW 11 10 [1],
cT 12 0 []])
(.block 0
(.loop uz)))
(.seq (.ops [
fR 4 true []])
.ret)))⟩
def f239:bg:=⟨139,[.cell 8 true 3,.t 9],
(.seq (.ops [
df 4 0 [],
df 5 1 [],
df 6 2 [],
df 7 3 [],
aP 8 (.alloc [.bu,.pv (.int .i64 0),.pv (.int .i64 0)]) [],
jm 9 []])
(.seq (.draw [
bZ 16 3 6 [],
bP 17 1 7 [],
bQ 18 1 17 [1],
aP 19 (.call 244 [.t 16,.t 18]) [0,2],
bZ 20 3 6 [],
bP 21 3 7 [],
bQ 22 1 21 [5],
aP 23 (.call 244 [.t 20,.t 22]) [4,6,3],
aq 10 19 [3,7,0,1,2,3],
aq 11 23 [7,8,0,1,2,3,4,5,6,7,8]])
(.seq (.ops [
bZ 25 3 4 [],
bP 26 2 7 [],
bQ 27 1 26 [1],
aP 28 (.call 82 [.t 25,.t 27]) [0,2],
aq 24 28 [3],
fc 29 24 0 [4],
fc 30 24 1 [4],
aP 12 (.alloc [.pv (.int .i64 0),.pv (.int .i64 0),.pv (.int .u64 0),.pv (.int .u64 0),.pv (.int .u64 0),.pv (.int .u64 0),.pv (.int .u64 0),.pv (.int .u64 0),.pv (.int .u64 0),.pv (.int .u64 0)]) [],
dg 10 12 29 [7,5,3,0,1,2,3,4,5,7],
aq 13 30 [6,8,0,1,2,3,4,5,6,7,8]])
(.seq (.block 0
(.seq (.ops [
bZ 32 4 7 [],
aP 33 (.call 243 [.t 32]) [0],
aP 34 (.not (.t 33)) [1],
aq 31 34 [2,1]])
(.cond (.t 31)
(.seq (.ops [
aP 35 (.build [.bu,.pv (.int .i64 0),.pv (.int .i64 0)] []) [],
aP 36 (.kO 0 (.c (.pv (.int .i64 1)))) [],
dg 3 8 35 [0,0],
aq 9 36 [1,2,0,1,2]])
.ret)
(.seq (.ops [
aq 38 10 [],
cM 39 .lss 38 0 [0],
aq 40 39 [1],
dX 41 40 false 0 7 [2],
dP 42 40 false 1 41 [3,2],
fV 43 40 false .neq 42 2 [4,2],
eP 44 40 false 43 [5,2,2],
eP 45 44 true 13 [6],
dU 46 44 true (.not (.t 45)) [7,6],
Hb 47 40 false 44 46 [6,8,2],
jJ 48 40 47 [2,9],
aq 49 48 [10,6],
dX 50 49 false 0 7 [11],
dP 51 49 false 1 50 [12,11],
fV 52 49 false .eql 51 4 [13,11],
eP 53 49 false 52 [14,11,11],
eP 54 53 true 11 [15],
fV 55 53 true .lss 54 0 [16,15],
Hb 56 49 false 53 55 [15,17,11],
jJ 57 49 56 [11,18],
aq 37 57 [19,15]])
(.cond (.t 37)
(.seq (.ops [
aP 58 (.build [.bu,.pv (.int .i64 0),.pv (.int .i64 0)] []) [],
aP 59 (.kO 0 (.c (.pv (.int .i64 4)))) [],
dg 3 8 58 [0,0],
aq 9 59 [1,2,0,1,2]])
.ret)
.skip)))))
(.seq (.ops [
bP 60 0 6 [],
bQ 61 1 60 [0],
aq 62 10 [],
ft 63 8 61 62 [1,2],
bP 64 7 63 [3],
bQ 65 1 64 [4],
aq 14 65 [5,0,1,2,3,4,5]])
(.seq (.ops [
bP 66 0 6 [],
bQ 67 1 66 [0],
aP 68 (.call 279 [.t 67]) [1],
bP 69 0 6 [0,1,2],
dg 1 69 68 [3,2,2,0,1,2]])
(.seq (.ops [
bP 70 0 6 [],
bQ 71 1 70 [0],
aq 72 10 [],
ft 73 8 71 72 [1,2],
aq 15 73 [3,0,1,2,3]])
(.seq (.seq (.ops [
bP 74 0 7 [],
bQ 75 1 74 [0]])
(.block 1
(.seq (.block 5
(.seq (.block 4
(.seq (.block 3
(.seq (.block 2
(.seq (.seq (.seq (.ops [
cM 77 .eql 75 2 [],
aq 76 77 [0]])
(.cond (.t 76)
(.exit 2)
.skip))
(.seq (.seq (.ops [
cM 79 .eql 75 3 [],
aq 78 79 [0]])
(.cond (.t 78)
(.exit 3)
.skip))
(.seq (.ops [
cM 81 .eql 75 4 [],
aq 80 81 [0]])
(.cond (.t 80)
(.exit 4)
.skip))))
(.exit 5)))
(.seq (.seq (.seq (.ops [
aq 82 14 [],
cM 83 .eql 82 0 [0]])
(.cond (.t 83)
(.seq (.ops [
aP 84 (.build [.bu,.pv (.int .i64 0),.pv (.int .i64 0)] []) [],
aP 85 (.kO 0 (.c (.pv (.int .i64 7)))) [],
dg 3 8 84 [0,0],
aq 9 85 [1,2,0,1,2]])
.ret)
.skip))
(.seq (.ops [
aq 86 15 [],
jD 87 86 [0,0],
bP 88 7 87 [1,0],
Nb (.store 1 (.t 88) (.c (.pv (.int .i64 0)))) [2,0]])
(.seq (.ops [
bZ 89 3 6 [],
dg 3 8 89 [0,0],
jm 9 [1,0,1]])
.ret)))
(.exit 1))))
(.seq (.seq (.seq (.ops [
aq 90 14 [],
cM 91 .eql 90 0 [0],
aq 92 91 [1],
eP 93 92 false 14 [2],
dX 94 92 false 2 7 [2],
dP 95 92 false 1 94 [4,2],
dU 96 92 false (.bin .eql none (.t 93) (.t 95)) [3,5,2],
jJ 97 92 96 [2,6]])
(.cond (.t 97)
(.seq (.ops [
aP 98 (.build [.bu,.pv (.int .i64 0),.pv (.int .i64 0)] []) [],
aP 99 (.kO 0 (.c (.pv (.int .i64 7)))) [],
dg 3 8 98 [0,0],
aq 9 99 [1,2,0,1,2]])
.ret)
.skip))
(.ops [
bP 100 2 6 [],
bQ 101 1 100 [0],
cM 102 .add 101 1 [1],
bP 103 2 6 [0,1,2],
dg 1 103 102 [3,2,0,1,2]]))
(.exit 1))))
(.seq (.seq (.draw [
aq 104 10 [],
aq 105 11 [],
eu 106 .eql 104 105 [0,1],
aq 107 106 [2],
dX 108 107 false 0 6 [3],
dP 109 107 false 1 108 [4,3],
eP 110 107 false 11 [3],
zD 111 107 false 8 109 110 [5,6,3],
dX 112 107 false 7 111 [7,3],
dP 113 107 false 1 112 [8,3],
dX 114 107 false 2 7 [3],
dP 115 107 false 1 114 [10,3],
dU 116 107 false (.bin .neq none (.t 113) (.t 115)) [9,11,3],
jJ 117 107 116 [3,12]])
(.cond (.t 117)
(.seq (.ops [
aP 118 (.build [.bu,.pv (.int .i64 0),.pv (.int .i64 0)] []) [],
aP 119 (.kO 0 (.c (.pv (.int .i64 7)))) [],
dg 3 8 118 [0,0],
aq 9 119 [1,2,0,1,2]])
.ret)
.skip))
(.seq (.ops [
bP 120 0 6 [],
bQ 121 1 120 [0],
aq 122 11 [],
ft 123 8 121 122 [1,2,0,1,2],
bP 124 7 123 [3,0,1,2],
Nb (.store 1 (.t 124) (.c (.pv (.int .i64 0)))) [4,0,1,2]])
(.ops [
bP 125 1 6 [],
bQ 126 1 125 [0],
cM 127 .add 126 1 [1],
bP 128 1 6 [0,1,2],
dg 1 128 127 [3,2,0,1,2]])))))
(.seq (.seq (.ops [
aq 129 14 [],
cM 130 .neq 129 0 [0]])
(.cond (.t 130)
(.seq (.ops [
aP 131 (.build [.bu,.pv (.int .i64 0),.pv (.int .i64 0)] []) [],
aP 132 (.kO 0 (.c (.pv (.int .i64 7)))) [],
dg 3 8 131 [0,0],
aq 9 132 [1,2,0,1,2]])
.ret)
.skip))
(.exit 1)))))
(.seq (.ops [
bZ 133 3 5 [],
aq 134 15 [],
bP 135 2 7 [],
bQ 136 1 135 [2],
aP 137 (.call 242 [.t 133,.t 134,.t 136]) [0,1,3]])
(.seq (.ops [
bZ 138 3 6 [],
dg 3 8 138 [0,0],
jm 9 [1,0,1]])
.ret))))))))))⟩
def f240:bg:=⟨18,[.cell 4 true 8,.t 5],
(.seq (.ops [
df 2 0 [],
aP 4 (.alloc [.pv (.int .i64 0),.pv (.int .i64 0),.pv (.int .i64 0),.pv (.int .u64 0),.pv (.int .u64 0),.pv (.int .u64 0),.pv (.int .u64 0),.pv (.int .i64 0)]) [],
fR 5 false []])
(.seq (.ops [
bZ 7 3 2 [],
aq 8 1 [],
aP 9 (.call 244 [.t 7,.t 8]) [0,1],
aq 6 9 [2,2,0,1,2]])
(.seq (.seq (.ops [
aq 10 6 [],
cM 11 .lss 10 0 [0]])
(.cond (.t 11)
(.seq (.ops [
aP 12 (.build [.pv (.int .i64 0),.pv (.int .i64 0),.pv (.int .i64 0),.pv (.int .u64 0),.pv (.int .u64 0),.pv (.int .u64 0),.pv (.int .u64 0),.pv (.int .i64 0)] []) [],
dg 8 4 12 [0,0],
fR 5 false [1,0,1]])
.ret)
.skip))
(.seq (.ops [
bP 13 0 2 [],
bQ 14 1 13 [0],
aq 15 6 [],
ft 16 8 14 15 [1,2],
bZ 17 8 16 [3],
dg 8 4 17 [4,0,1,2,3,4],
fR 5 true [5,0,1,2,3,4,5]])
.ret))))⟩
def f242:bg:=⟨31,[],
(.seq (.ops [
df 3 0 []])
(.seq (.ops [
aq 8 1 [],
aq 9 2 [],
jD 10 8 [0,0,1],
bP 11 7 10 [2,0,1],
dg 1 11 9 [3,1,0,1]])
(.seq (.draw [
bZ 13 3 3 [],
aq 14 1 [],
jD 15 14 [1],
bP 16 0 15 [2],
bQ 17 1 16 [3],
aP 18 (.call 83 [.t 13,.t 17]) [0,4],
aq 12 18 [5],
fc 19 12 0 [6],
fc 20 12 1 [6],
aP 6 (.alloc [.pv (.int .i64 0),.pv (.int .u64 0),.pv (.int .u64 0),.pv (.int .u64 0),.pv (.int .u64 0),.pv (.bool false)]) [],
dg 6 6 19 [9,7,5,0,1,2,3,4,5,6,7,9],
aq 7 20 [8,10,0,1,2,3,4,5,6,7,8,9,10]])
(.seq (.ops [
aq 21 7 [],
aq 22 21 [0],
dX 23 22 true 5 6 [1],
dP 24 22 true 1 23 [2,1],
ib 25 22 24 [1,3]])
(.cond (.t 25)
(.ops [
aq 26 1 [],
bP 27 1 6 [],
bZ 28 4 27 [1],
jD 29 26 [0,0,1,2],
bP 30 3 29 [3,0,1,2],
dg 4 30 28 [4,2,0,1,2]])
.skip)))))⟩
def f243:bg:=⟨23,[.t 2],
(.seq (.ops [
df 1 0 [],
fR 2 false []])
(.seq (.seq (.ops [
bP 3 0 1 [],
bQ 4 1 3 [0]])
(.block 0
(.seq (.ops [
cM 6 .eql 4 2 [],
aq 5 6 [0]])
(.cond (.t 5)
(.seq (.ops [
bP 7 2 1 [],
bQ 8 1 7 [0],
cM 9 .eql 8 0 [1],
aq 10 9 [2],
dX 11 10 true 3 1 [3],
dP 12 10 true 1 11 [4,3],
fV 13 10 true .eql 12 0 [5,3],
ib 14 10 13 [3,6],
aq 2 14 [7,3,0,1,2,3,4,5,6,7]])
.ret)
(.seq (.seq (.ops [
cM 16 .eql 4 1 [],
aq 15 16 [0]])
(.cond (.t 15)
.skip
(.ops [
cM 17 .eql 4 3 [],
aq 15 17 [0]])))
(.cond (.t 15)
(.seq (.ops [
bP 18 3 1 [],
bQ 19 1 18 [0],
cM 20 .eql 19 0 [1],
aq 2 20 [2,0,1,2]])
.ret)
(.seq (.ops [
cM 22 .eql 4 4 [],
aq 21 22 [0]])
(.cond (.t 21)
(.seq (.ops [
fR 2 true []])
.ret)
.skip))))))))
(.seq (.ops [
fR 2 false []])
.ret)))⟩
def f244:bg:=⟨9,[.t 4],
(.seq (.ops [
df 2 0 [],
df 3 1 [],
cT 4 0 []])
(.seq (.ops [
bP 5 0 2 [],
bQ 6 1 5 [0],
aP 7 (.xb 245 [] [.t 3]) [],
aP 8 (.call 287 [.t 6,.t 7]) [1,2],
aq 4 8 [3,3,0,1,2,3]])
.ret))⟩
def f245:bg:=⟨8,[.t 3],
(.seq (.ops [
df 2 0 [],
fR 3 false []])
(.seq (.ops [
bP 4 0 2 [],
bQ 5 1 4 [0],
bQ 6 1 1 [],
eu 7 .eql 5 6 [1,2],
aq 3 7 [3,0,1,2,3]])
.ret))⟩
def yK:bz :=
(.seq (.ops [
eu 9 .lss 8 7 []])
(.seq (.cond (.t 9)
.skip
(.exit 0))
(.seq (.block 1
(.seq (.ops [
aq 10 8 [],
aq 5 10 [0,0]])
(.seq (.ops [
aq 11 1 [],
aq 12 0 [],
aq 13 5 [],
ft 14 8 12 13 [1,2],
bZ 15 8 14 [3],
aP 16 (.fJ (.t 11) [.t 15]) [0,4]])
(.cond (.t 16)
(.seq (.ops [
aq 17 5 [],
aq 4 17 [0,0]])
.ret)
.skip))))
(.ops [
cM 18 .add 8 1 [],
aq 8 18 [0]]))))
def f287:bg:=⟨19,[.t 4],
(.seq (.ops [
cT 4 0 []])
(.seq (.seq (.ops [
aq 6 0 [],
fW 7 6 [0],
cT 8 0 []])
(.block 0
(.loop yK)))
(.seq (.ops [
cT 4 (-1) []])
.ret)))⟩
def bx(id:Int):Nat->List dx->Int
 |_,[]=> -1
 |i,p::r=>if p.id=id then i else bx id (i+1) r
theorem gX{T:cL}(nV:Std T 167 f167)(t:State)(id:Int)(h:t.pods.length<=2^30) :
    ba T 167 [ar t,.int .i64 id] (.int .i64 (bx id 0 t.pods)):=by
 refine gives nV rfl ?_;simp only[f167,rM',aa,simprocAttr,ar];have loop:∀(rest:List dx) (i:Nat) (fr:List (Nat×AV)),t.pods.drop i=rest->i<=t.pods.length->look fr 5=.pv (.int .i64 i)->look fr 1=.pv (.int .i64 id)->look fr 2=.ptr 0 0 0 ->
                                                                                              Wp T false (.loop ya) ⟨fr,[(0,.var [.pv (.slice (t.pods.map aJ)),.pv (.int .i64 t.pre),.pv (.int .i64 t.eW)])],1⟩
                                                                                               (vY 0 (vr T false (.seq (.ops [⟨some 4,.mv (.c (.pv (.int .i64 (-1)))),none,[]⟩]) .ret) (kT [.t 4] (.int .i64 (bx id i rest))))):=by
  intro rest;induction rest with
  |nil =>
   intro i fr hd hi h5 h1 h2;have hlen:t.pods.length=i:=by
    have:=de List.length hd;simp at this;omega
   rw[ay,aY ya.eq_1];simp only[rM',aa,simprocAttr,h5,h1,h2,al,hlen,aR,p9,bx,not_true_eq_false]
  |cons p r ih =>
   intro i fr hd hi h5 h1 h2;have aK:t.pods[i]? =some p:=by
    have:=de (·[0]?) hd;simpa using this
   have hlt:i<t.pods.length:=(aA.1 aK).1;have uM:(i:Int)<(t.pods.length:Int):=by omega
   rw[ay,aY ya.eq_1];simp only[rM',aa,simprocAttr,h5,h1,h2,al,uM,kA,bY,fj,aK,Eh,rA,aJ];by_cases hp:p.id=id
   ·simp only[rM',aa,simprocAttr,h5,h1,h2,hp,bx]
   ·have hw:IntKind.i64.wrap ((i:Int)+1)=((i+1:Nat):Int):=by rw[f9] <;>omega
    simp only[rM',aa,simprocAttr,h5,h1,h2,hp,bx,hw];refine ih (i+1) _ ?_ (by omega) ?_ ?_ ?_
    ·rw[<-jM,hd];rfl
    all_goals simp only[bG,Nat.reduceEqDiff,bA,aI,h1,h2]
 exact loop t.pods 0 _ rfl (aN _) rfl rfl rfl
def H4(s:bc):Bool:=decide ((s.nodes.length:Int)<=40)&&(decide ((s.aU.length:Int)<=40)&&decide ((s.pods.length:Int)<=40))
theorem JN{T:cL}(Ml:Std T 153 f153)(s:bc):ba T 153 [aD s] (.bool (H4 s)):=by
 refine gives Ml rfl ?_;unfold H4;by_cases h1:(s.nodes.length:Int)<=40 <;>by_cases h2:(s.aU.length:Int)<=40 <;>by_cases h3:(s.pods.length:Int)<=40 <;>
  simp only[f153,rM',aa,simprocAttr,aD,al,h1,h2,h3,kA,p9,bw,bh,dV,cB]
section
section
variable{T:cL}
def jH(P:List PV->Bool):Nat->List (List PV)->Int
 |_,[]=> -1
 |i,e::r=>if P e=true then i else jH P (i+1) r
theorem AJ{n:Nat}{cs:List PV}(P:List PV->Bool)(Ho:Std T 287 f287)(es:List (List PV))(h:es.length<=2^30)(hl:∀e∈es,e.length=8)(hP:∀e∈es,ba T n (.agg e::cs) (.bool (P e))) :
    ba T 287 [.slice es,.func n [] cs] (.int .i64 (jH P 0 es)):=by
 refine gives Ho rfl ?_;simp only[f287,rM',aa,simprocAttr];have loop:∀(rest:List (List PV)) (i:Nat) (fr:List (Nat×AV)),es.drop i=rest->i<=es.length->look fr 8=.pv (.int .i64 i)->look fr 7=.pv (.int .i64 es.length)->look fr 0=.pv (.slice es)->look fr 1=.pv (.func n [] cs) ->
                                                                                           Wp T false (.loop yK) ⟨fr,[],0⟩
                                                                                            (vY 0 (vr T false (.seq (.ops [⟨some 4,.mv (.c (.pv (.int .i64 (-1)))),none,[]⟩]) .ret) (kT [.t 4] (.int .i64 (jH P i rest))))):=by
  intro rest;induction rest with
  |nil =>
   intro i fr hd hi h8 h7 h0 h1;have hlen:es.length=i:=by
    have:=de List.length hd;simp at this;omega
   rw[ay,aY yK.eq_1];simp only[rM',aa,simprocAttr,h8,h7,h0,h1,hlen,aR,jH]
  |cons e r ih =>
   intro i fr hd hi h8 h7 h0 h1;have aK:es[i]? =some e:=by
    have:=de (·[0]?) hd;simpa using this
   have Hv:e∈es:=dH aK;have hlt:i<es.length:=(aA.1 aK).1;have uM:(i:Int)<(es.length:Int):=by omega
   have hw:IntKind.i64.wrap ((i:Int)+1)=((i+1:Nat):Int):=by rw[f9] <;>omega
   have hc:cd (.pv (.agg e)::dK cs)=some (.agg e::cs):=by
    have:cd (dK (.agg e::cs))=some (.agg e::cs):=vh _;exact this
   rw[ay,aY yK.eq_1];simp only[rM',aa,simprocAttr,h8,h7,h0,h1,uM,aK,hl e Hv,aT,pe,bH];rw[(hP e Hv).call _ _ _ _ _ (by simp only[hc])];cases hp:P e
   ·simp only[rM',aa,simprocAttr,h8,h7,h0,h1,hw,jH,hp];refine ih (i+1) _ ?_ (by omega) ?_ ?_ ?_ ?_
    ·rw[<-jM,hd];rfl
    all_goals simp only[bG,Nat.reduceEqDiff,bA,aI,h7,h0,h1]
   ·simp only[rM',aa,simprocAttr,h8,h7,h0,h1,hw,jH,hp]
 exact loop es 0 _ rfl (aN _) rfl rfl rfl rfl
theorem Fw(Mr:Std T 245 f245)(p:dx)(id:Int):ba T 245 [nY p,.gQ [.int .i64 id] 0] (.bool (decide (p.id=id))):=by
 refine gives Mr rfl ?_;simp only[f245,rM',aa,simprocAttr,nY,aJ]
theorem ld(id:Int):∀(l:List dx) (i:Nat),jH (fun e=>match e with| .int _ n::_=>decide (n=id)|_=>false) i (l.map aJ)=bx id i l
 |[],i=>rfl
 |p::r,i=>by
  simp only[aX,jH,aJ,bx,bO];split
  ·rfl
  ·exact ld id r (i+1)
structure Gi(T:cL):Prop where
 Ho:Std T 287 f287
 JQ:T.flat 287=true
 Mr:Std T 245 f245
 Rw:Std T 244 f244
theorem sg(S:Gi T)(t:State)(id:Int)(h:t.pods.length<=2^30):ba T 244 [ar t,.int .i64 id] (.int .i64 (bx id 0 t.pods)):=by
 refine gives S.Rw rfl ?_;have k:=AJ (n:=245) (cs:=[.gQ [.int .i64 id] 0]) (fun e=>match e with| .int _ n::_=>decide (n=id)|_=>false) S.Ho (t.pods.map aJ) (by simpa using h) (fun e he=>by
  obtain⟨p,_,rfl⟩:=cC.1 he;rfl) (fun e he=>by
  obtain⟨p,_,rfl⟩:=cC.1 he;exact Fw S.Mr p id)
 rw[ld]at k;simp only[f244,rM',aa,simprocAttr,ar];rw[k.sE S.JQ rfl _ _ _ _ _ (eq_true rfl) (eq_true rfl)];simp only[rM',aa,simprocAttr]
def f6(id:Int)(l:List dx):Option dx:=l.find? (fun p=>decide (p.id=id))
theorem ca(id:Int):∀(l:List dx) (i:Nat),(f6 id l=none/\bx id i l= -1)\/∃j p,l[j]? =some p/\f6 id l=some p/\bx id i l=((i+j:Nat):Int)/\j<l.length
 |[],i=>.inl ⟨rfl,rfl⟩
 |q::r,i=>by
  by_cases h:q.id=id
  ·refine .inr ⟨0,q,rfl,by simp[f6,h],by simp[bx,h],by simp⟩
  ·rcases ca id r (i+1)with⟨h1,h2⟩|⟨j,p,h1,h2,h3,h4⟩
   ·refine .inl ⟨?_,?_⟩
    ·simp only[f6]at h1⊢;simp[h,h1]
    ·simp only[bx,h,aI,h2]
   ·refine .inr ⟨j+1,p,by simpa using h1,?_,?_,by simp only[aC];omega⟩
    ·simp only[f6]at h2⊢;simp[h,h2]
    ·simp only[bx,h,aI,h3];omega
def FA:dx:=⟨0,0,0,⟨0,0,0,0⟩,0⟩
def qg(o:Option dx):PV:=match o with
 |some p=>.tuple [nY p,.bool true]
 |none=>.tuple [nY FA,.bool false]
theorem zg(S:Gi T)(w6:Std T 240 f240)(t:State)(id:Int)(h:t.pods.length<=2^30):ba T 240 [ar t,.int .i64 id] (qg (f6 id t.pods)):=by
 refine gives w6 rfl ?_;have k:=sg S t id h;rcases ca id t.pods 0 with⟨h1,h2⟩|⟨j,p,h1,h2,h3,h4⟩
 ·rw[h2]at k;simp only[f240,rM',aa,simprocAttr,ar,k.call,h1,qg,nY,FA,aJ,Int.reduceNeg,Int.reduceLT,fq]
 ·rw[h3]at k;have hj:¬((j:Int)<0):=by omega
  simp only[f240,rM',aa,simprocAttr,ar,k.call,h2,qg,nY,aJ,hj,h1]
structure IV(T:cL)(n sz:Nat):Prop where
 fP:T.fP n=some (iT sz)
 raw:T.raw n=false
 own:T.own n=true
theorem IV.call{n sz:Nat}(S:IV T n sz){es:List (List PV)}(h:cq sz es=true)(hl:es.length<=2^30)(d:Option Nat)(l:List aV)(st:St)(K:St->Prop) :
    iN T n [.pv (.slice es)] d l st K↔tM T l (match es with|[]=>⟨dt st d (.pv (.slice [])),st.hp,st.nx⟩|e::r=>⟨dt st d (.ms st.nx),(st.nx,.row sz (e::r))::st.hp,st.nx+1⟩) K:=by
 cases es with
 |nil =>
  have hc:dq (D T) n [.slice []]=some (none,.slice []):=by
   unfold dq;rw[im S.fP (show iT sz (dK [.slice []]) [] 0=some (.pv (.slice []),[],2)from rfl)];rfl
  rw[la S.raw rfl hc,S.own];rfl
 |cons e r =>
  have hc:dq (D T) n [.slice (e::r)]=some (some sz,.slice (e::r)):=by
   unfold dq;rw[im S.fP (show iT sz (dK [.slice (e::r)]) [] 0=some (.ms 1,[(1,.row sz (e::r))],2)from by
    simp only[iT,dK];rw[aW ⟨h,hl⟩])]
   rfl
  rw[la S.raw rfl hc,S.own];rfl
theorem cW(l:List dx):cq 8 (l.map aJ)=true:=by
 simp[cq,aJ]
def bR(s:bc):State:=⟨s.pods,0,0⟩
theorem EP(K9:Std T 237 f237)(rV:IV T 279 8)(s:bc)(h:s.pods.length<=2^30):ba T 237 [aD s] (ar (bR s)):=by
 refine gives K9 rfl ?_;simp only[f237,rM',aa,simprocAttr,aD,ar,bR];rw[rV.call (cW _) (by simpa using h)];cases hs:s.pods with
 |nil=>simp only[rM',aa,simprocAttr,az]
 |cons p r=>simp only[rM',aa,simprocAttr,aX]
theorem uC(Hh:Std T 164 f164)(s:bc)(h:s.pods.length<=2^30):ba T 164 [aD s] (ar (bR s)):=by
 refine gives Hh rfl ?_;simp only[f164,rM',aa,simprocAttr,aD,ar,bR,cW,bt,dW,chunk,fT,eN,h]
def lr(w:Want)(l:List dx):Bool:=match f6 w.eU l with
 |none=>false
 |some p=>if w.stay=true then decide (p.node≠0)&&decide (p.jV=w.jV)else decide (p.node=0)
def dh(ws:List Want)(l:List dx):Bool:=ws.all (fun w=>lr w l)
theorem pI(v v':jC):dE [false,false,false,false] [.int .u64 v.a,.int .u64 v.b,.int .u64 v.c,.int .u64 v.d] [.int .u64 v'.a,.int .u64 v'.b,.int .u64 v'.c,.int .u64 v'.d]=some (decide (v=v')):=by
 obtain⟨a,b,c,d⟩:=v;obtain⟨a',b',c',d'⟩:=v';simp only[dE,bA,ai];rw[Bool.eq_iff_iff];simp
theorem Aq(S:Gi T)(w6:Std T 240 f240)(Ka:Std T 238 f238)(x:Spec)(t:State)(hx:x.aZ.length<=2^30)(h:t.pods.length<=2^30):ba T 238 [bd x,ar t] (.bool (dh x.aZ t.pods)):=by
 refine gives Ka rfl ?_;have loop:∀(rest:List Want) (i:Nat),x.aZ.drop i=rest->i<=x.aZ.length->∀(fr:List (Nat×AV)) (hp:Hl) (nx:Nat),2<=nx ->
                            ah hp 1=.var [.pv (.slice (t.pods.map aJ)),.pv (.int .i64 t.pre),.pv (.int .i64 t.eW)]->look fr 3=.ptr 1 0 0 ->
                            look fr 12=.pv (.int .i64 i)->look fr 11=.pv (.int .i64 x.aZ.length)->look fr 10=.pv (.slice (x.aZ.map cg)) ->
                            Wp T false (.loop uz) ⟨fr,hp,nx⟩ (vY 0 (vr T false (.seq (.ops [⟨some 4,.mv (.c (.pv (.bool true))),none,[]⟩]) .ret) (kT [.t 4] (.bool (dh rest t.pods))))):=by
  intro rest;induction rest with
  |nil =>
   intro i hd hi fr hp nx hn b1 h3 kD h11 h10;have hlen:x.aZ.length=i:=by
    have:=de List.length hd;simp at this;omega
   rw[ay,aY uz.eq_1];simp only[rM',aa,simprocAttr,h3,kD,h11,h10,hlen,aR,dh,bW]
  |cons w r ih =>
   intro i hd hi fr hp nx hn b1 h3 kD h11 h10;have aK:x.aZ[i]? =some w:=by
    have:=de (·[0]?) hd;simpa using this
   have hlt:i<x.aZ.length:=(aA.1 aK).1;have uM:(i:Int)<(x.aZ.length:Int):=by omega
   have n1:¬nx=1:=by omega
   have n2:¬nx+1=1:=by omega
   have hw:IntKind.i64.wrap ((i:Int)+1)=((i+1:Nat):Int):=by rw[f9] <;>omega
   have k:=zg S w6 t w.eU h;have next:lr w t.pods=true->∀(fE:List (Nat×AV)) (hp':Hl) (cE:Nat),2<=cE->ah hp' 1=ah hp 1->look fE 3=look fr 3->look fE 12=.pv (.int .i64 ((i+1:Nat):Int))->look fE 11=look fr 11->look fE 10=look fr 10 ->
                                Wp T false (.loop uz) ⟨fE,hp',cE⟩ (vY 0 (vr T false (.seq (.ops [⟨some 4,.mv (.c (.pv (.bool true))),none,[]⟩]) .ret) (kT [.t 4] (.bool (dh (w::r) t.pods))))):=by
    intro hm fE hp' cE RX rB Kb Ra R9 R8;have:dh (w::r) t.pods=dh r t.pods:=by simp only[dh,bL,hm,bh]
    rw[this];exact ih (i+1) (by rw[<-jM,hd];rfl) (by omega) fE hp' cE RX (rB.trans b1) (Kb.trans h3) Ra (R9.trans h11) (R8.trans h10)
   have stop:lr w t.pods=false->dh (w::r) t.pods=false:=by
    intro hm;simp only[dh,bL,hm,cB]
   rw[ay,aY uz.eq_1];simp only[rM',aa,simprocAttr,h3,kD,h11,h10,uM,aK,cg,b1,n1,n2,k.call,ar];cases hp0:f6 w.eU t.pods with
   |none =>
    have:=stop (by simp only[lr,hp0]);simp only[rM',aa,simprocAttr,qg,nY,FA,aJ,n1,n2,this]
   |some p =>
    cases jb:w.stay
    ·by_cases hn:p.node=0
     ·simp only[rM',aa,simprocAttr,qg,nY,aJ,n1,n2,jb,hn,kD,hw];refine next (by simp[lr,hp0,jb,hn]) _ _ _ (by omega) ?_ ?_ ?_ ?_ ?_
      all_goals simp only[bG,aF,Nat.reduceEqDiff,bA,aI,n1,n2]
     ·have:=stop (by simp[lr,hp0,jb,hn]);simp only[rM',aa,simprocAttr,qg,nY,aJ,n1,n2,jb,hn,this]
    ·by_cases hn:p.node=0
     ·have:=stop (by simp[lr,hp0,jb,hn]);simp only[rM',aa,simprocAttr,qg,nY,aJ,n1,n2,jb,hn,this]
     ·by_cases hr:p.jV=w.jV
      ·simp only[rM',aa,simprocAttr,qg,nY,aJ,n1,n2,jb,hn,pI,hr,kD,hw];refine next (by simp[lr,hp0,jb,hn,hr]) _ _ _ (by omega) ?_ ?_ ?_ ?_ ?_
       all_goals simp only[bG,aF,Nat.reduceEqDiff,bA,aI,n1,n2]
      ·have:=stop (by simp[lr,hp0,jb,hn,hr]);simp only[rM',aa,simprocAttr,qg,nY,aJ,n1,n2,jb,hn,pI,hr,this]
 simp only[f238,rM',aa,simprocAttr,bd,ar];exact loop x.aZ 0 rfl (aN _) _ _ 2 (ax _) rfl rfl rfl rfl rfl
theorem wO(Rg:Std T 165 f165)(nV:Std T 167 f167)(x:Spec)(t:State)(hx:x.aZ.length<=2^30)(h:t.pods.length<=2^30):ba T 165 [bd x,ar t] (.bool (dh x.aZ t.pods)):=by
 refine gives Rg rfl ?_;have loop:∀(rest:List Want) (i:Nat),x.aZ.drop i=rest->i<=x.aZ.length->∀(fr:List (Nat×AV)) (hp:Hl) (nx:Nat),2<=nx ->
                            ah hp 0=.var [.pv (.slice (x.aZ.map cg)),.pv (.int .i64 x.pre),.pv (.int .i64 x.eW)] ->
                            ah hp 1=.var [.pv (.slice (t.pods.map aJ)),.pv (.int .i64 t.pre),.pv (.int .i64 t.eW)]->look fr 2=.ptr 0 0 0->look fr 3=.ptr 1 0 0->look fr 5=.pv (.int .i64 i) ->
                            Wp T false (.loop uj) ⟨fr,hp,nx⟩ (vY 0 (vr T false (.seq (.ops [⟨some 4,.mv (.c (.pv (.bool true))),none,[]⟩]) .ret) (kT [.t 4] (.bool (dh rest t.pods))))):=by
  intro rest;induction rest with
  |nil =>
   intro i hd hi fr hp nx hn b0 b1 h2 h3 h5;have hlen:x.aZ.length=i:=by
    have:=de List.length hd;simp at this;omega
   rw[ay,aY uj.eq_1];simp only[rM',aa,simprocAttr,b0,h2,h3,h5,hlen,aR,dh,bW]
  |cons w r ih =>
   intro i hd hi fr hp nx hn b0 b1 h2 h3 h5;have aK:x.aZ[i]? =some w:=by
    have:=de (·[0]?) hd;simpa using this
   have hlt:i<x.aZ.length:=(aA.1 aK).1;have uM:(i:Int)<(x.aZ.length:Int):=by omega
   have n0:¬nx=0:=by omega
   have n1:¬nx=1:=by omega
   have hw:IntKind.i64.wrap ((i:Int)+1)=((i+1:Nat):Int):=by rw[f9] <;>omega
   have k:=gX nV t w.eU h;have next:lr w t.pods=true->∀(fE:List (Nat×AV)) (hp':Hl) (cE:Nat),2<=cE->ah hp' 0=ah hp 0->ah hp' 1=ah hp 1->look fE 2=look fr 2->look fE 3=look fr 3->look fE 5=.pv (.int .i64 ((i+1:Nat):Int)) ->
                              Wp T false (.loop uj) ⟨fE,hp',cE⟩ (vY 0 (vr T false (.seq (.ops [⟨some 4,.mv (.c (.pv (.bool true))),none,[]⟩]) .ret) (kT [.t 4] (.bool (dh (w::r) t.pods))))):=by
    intro hm fE hp' cE RX Jv rB K5 Kb Uc;have:dh (w::r) t.pods=dh r t.pods:=by simp only[dh,bL,hm,bh]
    rw[this];exact ih (i+1) (by rw[<-jM,hd];rfl) (by omega) fE hp' cE RX (Jv.trans b0) (rB.trans b1) (K5.trans h2) (Kb.trans h3) Uc
   have stop:lr w t.pods=false->dh (w::r) t.pods=false:=by
    intro hm;simp only[dh,bL,hm,cB]
   rw[ay,aY uj.eq_1];simp only[rM',aa,simprocAttr,b0,h2,h3,h5,uM];refine(eg rfl).2 ?_;rcases ca w.eU t.pods 0 with⟨e1,e2⟩|⟨j,p,e1,e2,e3,e4⟩
   ·have:=stop (by simp only[lr,e1]);rw[e2]at k;simp only[rM',aa,simprocAttr,b0,b1,h2,h3,h5,aK,cg,k.cn,ar,this,Int.reduceNeg,Int.reduceLT]
   ·have hj:¬((j:Int)<0):=by omega
    rw[e3]at k;simp only[rM',aa,simprocAttr,b0,b1,h2,h3,h5,aK,cg,k.cn,ar,hj,e1,aJ];refine(eg rfl).2 ?_;cases jb:w.stay
    ·by_cases hn:p.node=0
     ·simp only[rM',aa,simprocAttr,aJ,cg,n0,n1,jb,hn,b0,h2,h5,aK,hw];refine next (by simp[lr,e2,jb,hn]) _ _ _ (by omega) ?_ ?_ ?_ ?_ ?_
      all_goals simp only[bG,aF,Nat.reduceEqDiff,bA,aI,n0,n1]
     ·have:=stop (by simp[lr,e2,jb,hn]);simp only[rM',aa,simprocAttr,aJ,cg,n0,n1,jb,hn,b0,h2,h5,aK,this]
    ·by_cases hn:p.node=0
     ·have:=stop (by simp[lr,e2,jb,hn]);simp only[rM',aa,simprocAttr,aJ,cg,n0,n1,jb,hn,b0,h2,h5,aK,this]
     ·by_cases hr:p.jV=w.jV
      ·simp only[rM',aa,simprocAttr,aJ,cg,n0,n1,jb,hn,pI,hr,b0,h2,h5,aK,hw];refine next (by simp[lr,e2,jb,hn,hr]) _ _ _ (by omega) ?_ ?_ ?_ ?_ ?_
       all_goals simp only[bG,aF,Nat.reduceEqDiff,bA,aI,n0,n1]
      ·have:=stop (by simp[lr,e2,jb,hn,hr]);simp only[rM',aa,simprocAttr,aJ,cg,n0,n1,jb,hn,pI,hr,b0,h2,h5,aK,this]
 simp only[f165,rM',aa,simprocAttr,bd,ar];exact loop x.aZ 0 rfl (aN _) _ _ 2 (ax _) rfl rfl rfl rfl rfl
end
end
section
/-! ### Calls in the GN blocks -/
theorem dr{T:cL}{n:Nat}{args:List AV}{d:Option Nat}{l:List aV}{st:St}{K:St->Prop}{v:AV}{hp:Hl}{nx:Nat}(hr:T.raw n=true)(h:D T n args st.hp st.nx=some (v,hp,nx)) :
    iN T n args d l st K↔tM T l ⟨dt st d v,hp,nx⟩ K:=by
 unfold iN eM;simp only[hr,h,ai];constructor
 ·rintro⟨_,rfl,h⟩;exact h
 ·exact fun h=>⟨_,rfl,h⟩
def jK(res:List zG)(Q:AV->Hl->Nat->Prop)(st:St):Prop:=match kH (look st.fr) (ah st.hp) res with
 |some vs=>Q (gG vs) st.hp st.nx
 |none=>False
def ks(res:List zG)(Q:AV->Hl->Nat->Prop):Exit->St->Prop
 | .ret,st=>jK res Q st
 | .normal,st=>jK res Q st
 |_,_=>False
structure pP(T:cL)(n:Nat)(f:bg):Prop where
 fP:T.fP n=none
 fn:T.fn n=some f
 still:T.still n=false
 raw:T.raw n=true
theorem xB{T:cL}{n:Nat}{f:bg}{args:List AV}{hp:Hl}{nx:Nat}{Q:AV->Hl->Nat->Prop}(S:pP T n f)(hN:Nat.ble args.length f.N=true)(h:Wp T false f.body ⟨fy 0 args,hp,nx⟩ (ks f.res Q)) :
    ∃v hp' cE,D T n args hp nx=some (v,hp',cE)/\Q v hp' cE:=by
 obtain⟨e,st,h1,h2⟩:=h;have he:(e=.ret\/e=.normal)/\jK f.res Q st:=by
  cases e with
  |ret=>exact⟨.inl rfl,h2⟩
  |normal=>exact⟨.inr rfl,h2⟩
  |_=>exact h2.elim
 obtain⟨he,h3⟩:=he;unfold jK at h3;split at h3
 ·rename_i vs G5;exact⟨_,_,_,Ga S.fP S.fn hN (by rw[S.still];exact h1) he G5,h3⟩
 ·exact h3.elim
def mO:Node:=⟨0,0,⟨0,0,0,0⟩,⟨0,0,0,0⟩⟩
def dv(id:Int)(l:List Node):Option Node:=l.find? (fun n=>decide (n.id=id))
def jZ:Option Node->PV
 |some n=>.tuple [.agg (bB n),.bool true]
 |none=>.tuple [.agg (bB mO),.bool false]
theorem Fq{T:cL}(l:List Node)(id:Int)(hl:l.length<=2^30)(Q:Exit->St->Prop)(o:Option Node)
    (bS:o=none->∀fr hp nx,look fr 4=.ptr 1 0 0->ah hp 1=.var (dK (bB mO))->Q (.exit 0) ⟨fr,hp,nx⟩)
    (dI:∀n,o=some n->∀fr hp nx,look fr 4=.ptr 1 0 0->look fr 5=.pv (.bool true)->ah hp 1=.var (dK (bB n))->Q .ret ⟨fr,hp,nx⟩) :
    ∀(rest:List Node) (i:Nat),l.drop i=rest->i<=l.length->dv id rest=o->∀(fr:List (Nat×AV)) (hp:Hl) (nx:Nat),2<=nx->look fr 4=.ptr 1 0 0->ah hp 1=.var (dK (bB mO)) ->
     look fr 1=.pv (.int .i64 id)->look fr 9=.pv (.slice (l.map bB))->look fr 10=.pv (.int .i64 l.length)->look fr 11=.pv (.int .i64 i)->Wp T false (.loop Dz) ⟨fr,hp,nx⟩ Q:=by
 intro rest;induction rest with
 |nil =>
  intro i hd hi ho fr hp nx hn h4 b1 h1 h9 h10 h11;have hlen:=drop_nil hd hi;rw[ay,aY Dz.eq_1];simp only[rM',aa,simprocAttr,h4,h1,h9,h10,h11,hlen,aR];refine bS ho.symm _ _ _ ?_ b1;simp only[bG,Nat.reduceEqDiff,aI,h4]
 |cons n r ih =>
  intro i hd hi ho fr hp nx hn h4 b1 h1 h9 h10 h11;obtain⟨aK,hlt,hw,di,cS,hb⟩:=drop_cons hd hl;have n1:¬nx=1:=by omega
  have rB:=b1;simp only[bB,mO,dK]at rB;rw[ay,aY Dz.eq_1];by_cases hk:n.id=id
  ·simp only[rM',aa,simprocAttr,h4,rB,h1,h9,h10,h11,hlt,aK,bB,n1,hk];refine dI n (by rw[<-ho];simp[dv,hk]) _ _ _ ?_ ?_ ?_
   all_goals simp only[bG,aF,Nat.reduceEqDiff,bA,aI,h4,n1,bB,dK,hk]
  ·simp only[rM',aa,simprocAttr,h4,rB,h1,h9,h10,h11,hlt,aK,bB,n1,hk,hw];refine ih (i+1) di cS (by rw[<-ho];simp[dv,hk]) _ _ _ (by omega) ?_ ?_ ?_ ?_ ?_ ?_
   all_goals simp only[bG,aF,Nat.reduceEqDiff,bA,aI,h4,b1,n1,h1,h9,h10]
theorem tz{T:cL}(h:Std T 82 f82)(s:bc)(id:Int)(hl:s.nodes.length<=2^30):ba T 82 [aD s,.int .i64 id] (jZ (dv id s.nodes)):=by
 refine gives h rfl ?_;simp only[f82,rM',aa,simprocAttr,aD];refine Fq s.nodes id hl _ (dv id s.nodes) (fun ho fr hp nx h4 b1=>?_) (fun n ho fr hp nx h4 h5 b1=>?_) s.nodes 0 rfl (aN _) rfl _ _ _ (ax _) rfl rfl rfl rfl rfl rfl
 ·simp only[bB,mO,dK]at b1;simp only[rM',aa,simprocAttr,ho,jZ,h4,b1,bB,mO]
 ·simp only[bB,dK]at b1;simp only[rM',aa,simprocAttr,ho,jZ,h4,h5,b1,bB]
def vI:Want:=⟨0,⟨0,0,0,0⟩,false⟩
def jW(id:Int)(l:List Want):Option Want:=l.find? (fun n=>decide (n.eU=id))
def xx:Option Want->PV
 |some n=>.tuple [.agg (cg n),.bool true]
 |none=>.tuple [.agg (cg vI),.bool false]
theorem FY{T:cL}(l:List Want)(id:Int)(hl:l.length<=2^30)(Q:Exit->St->Prop)(o:Option Want)
    (bS:o=none->∀fr hp nx,look fr 4=.ptr 1 0 0->ah hp 1=.var (dK (cg vI))->Q (.exit 0) ⟨fr,hp,nx⟩)
    (dI:∀n,o=some n->∀fr hp nx,look fr 4=.ptr 1 0 0->look fr 5=.pv (.bool true)->ah hp 1=.var (dK (cg n))->Q .ret ⟨fr,hp,nx⟩) :
    ∀(rest:List Want) (i:Nat),l.drop i=rest->i<=l.length->jW id rest=o->∀(fr:List (Nat×AV)) (hp:Hl) (nx:Nat),2<=nx->look fr 4=.ptr 1 0 0->ah hp 1=.var (dK (cg vI)) ->
     look fr 1=.pv (.int .i64 id)->look fr 9=.pv (.slice (l.map cg))->look fr 10=.pv (.int .i64 l.length)->look fr 11=.pv (.int .i64 i)->Wp T false (.loop DA) ⟨fr,hp,nx⟩ Q:=by
 intro rest;induction rest with
 |nil =>
  intro i hd hi ho fr hp nx hn h4 b1 h1 h9 h10 h11;have hlen:=drop_nil hd hi;rw[ay,aY DA.eq_1];simp only[rM',aa,simprocAttr,h4,h1,h9,h10,h11,hlen,aR];refine bS ho.symm _ _ _ ?_ b1;simp only[bG,Nat.reduceEqDiff,aI,h4]
 |cons n r ih =>
  intro i hd hi ho fr hp nx hn h4 b1 h1 h9 h10 h11;obtain⟨aK,hlt,hw,di,cS,hb⟩:=drop_cons hd hl;have n1:¬nx=1:=by omega
  have rB:=b1;simp only[cg,vI,dK]at rB;rw[ay,aY DA.eq_1];by_cases hk:n.eU=id
  ·simp only[rM',aa,simprocAttr,h4,rB,h1,h9,h10,h11,hlt,aK,cg,n1,hk];refine dI n (by rw[<-ho];simp[jW,hk]) _ _ _ ?_ ?_ ?_
   all_goals simp only[bG,aF,Nat.reduceEqDiff,bA,aI,h4,n1,cg,dK,hk]
  ·simp only[rM',aa,simprocAttr,h4,rB,h1,h9,h10,h11,hlt,aK,cg,n1,hk,hw];refine ih (i+1) di cS (by rw[<-ho];simp[jW,hk]) _ _ _ (by omega) ?_ ?_ ?_ ?_ ?_ ?_
   all_goals simp only[bG,aF,Nat.reduceEqDiff,bA,aI,h4,b1,n1,h1,h9,h10]
theorem Lb{T:cL}(h:Std T 83 f83)(x:Spec)(id:Int)(hl:x.aZ.length<=2^30):ba T 83 [bd x,.int .i64 id] (xx (jW id x.aZ)):=by
 refine gives h rfl ?_;simp only[f83,rM',aa,simprocAttr,bd];refine FY x.aZ id hl _ (jW id x.aZ) (fun ho fr hp nx h4 b1=>?_) (fun n ho fr hp nx h4 h5 b1=>?_) x.aZ 0 rfl (aN _) rfl _ _ _ (ax _) rfl rfl rfl rfl rfl rfl
 ·simp only[cg,vI,dK]at b1;simp only[rM',aa,simprocAttr,ho,xx,h4,b1,cg,vI]
 ·simp only[cg,dK]at b1;simp only[rM',aa,simprocAttr,ho,xx,h4,h5,b1,cg]
end
section
def zp(x y:aV):Bool:=fo (kG x.dst) (vm y)&&(fo (kG x.dst) (kG y.dst)&&fo (kG y.dst) (vm x))
def Ir(x y:aV):Bool:=(quiet x.op&&quiet y.op)||(J0 x.op||J0 y.op)
def nz(i:Nat)(x:aV):List Nat->Nat->List aV->Option (List (Nat×Nat))
 |_,_,[]=>some []
 |l,j,y::r=>cond (sy l y.kC) (nz i x (j::l) (j+1) r) (cond (zp x y) (match nz i x l (j+1) r with
  |some ps=>some (cond (Ir x y) ps ((i,j)::ps))
  |none=>none) none)
def se(i:Nat):List aV->Option (List (Nat×Nat))
 |[]=>some []
 |x::r=>cond (Ni x&&kX i x.kC) (match nz i x [i] (i+1) r,se (i+1) r with
  |some a,some b=>some (a++b)
  |_,_=>none) none
def lJ(e f:En):Bool:=fo (keys e.W) f.rd&&(fo (keys e.W) (keys f.W)&&(fo (keys f.W) e.rd&&(Nat.beq e.n 0||(Nat.beq f.n 0||!(Nat.beq e.k f.k)))))
def rL:Option En->Option En->Bool
 |some e,some f=>lJ e f
 |_,_=>false
def iu(es:List En):List (Nat×Nat)->Bool
 |[]=>true
 |(i,j)::r=>rL (es[i]?) (es[j]?)&&iu es r
theorem ud{es:List En}:∀{ps:List (Nat×Nat)},iu es ps=true->∀i j,(i,j)∈ps->∀e f,es[i]? =some e->es[j]? =some f->lJ e f=true
 |[],_,i,j,h,_,_,_,_=>by simp at h
 |(a,b)::r,h,i,j,hm,e,f,h1,h2=>by
  simp only[iu,bq]at h;rcases aS.1 hm with heq|hm
  ·simp only[b9]at heq;obtain⟨rfl,rfl⟩:=heq;have:=h.1;rw[h1,h2]at this;exact this
  ·exact ud h.2 i j hm e f h1 h2
theorem HB{e f:En}(hs:zp e.x f.x=true)(hd:lJ e f=true):iI e f=true:=by
 simp only[zp,lJ,bq,vm]at hs hd;obtain⟨s1,s2,s3⟩:=hs;obtain⟨d1,d2,d3,d4⟩:=hd;simp only[iI,En.reads,s1,s2,s3,d1,d2,d3,d4,bh]
theorem L4{e f:En}(he:IY e)(hf:IY f)(h:Ir e.x f.x=true):lJ e f=true:=by
 simp only[Ir,ke,bq]at h;unfold lJ;rcases h with⟨q1,q2⟩|q1|q2
 ·obtain⟨a1,a2⟩:=he.1 q1;obtain⟨b1,b2⟩:=hf.1 q2;simp only[a1,a2,b1,b2,keys,fo,cm,sX,Bool.and_self]
 ·obtain⟨a1,a2,a3⟩:=he.2 q1;simp only[a1,a2,a3,keys,fo,oq,cm,sX,Bool.and_self]
 ·obtain⟨b1,b2,b3⟩:=hf.2 q2;simp only[b1,b2,b3,keys,fo,oq,cm,sX,M6,Bool.and_self]
theorem qe{i:Nat}{e:En}(he:IY e):∀{es:List En} {l:List Nat} {j:Nat} {ps:List (Nat×Nat)},(∀f∈es,IY f)->nz i e.x l j (es.map (·.x))=some ps ->
    (∀b f,(i,b)∈ps->j<=b->es[b-j]? =some f->lJ e f=true)->vp l j e es=true
 |[],l,j,ps,_,_,_=>rfl
 |f::r,l,j,ps,hs,h,hd=>by
  simp only[aX,nz]at h;simp only[vp];have qT:∀g∈r,IY g:=fun g hg=>hs g (by simp[hg]);have shift:∀{qs:List (Nat×Nat)},(∀b,(i,b)∈qs->(i,b)∈ps)->∀b g,(i,b)∈qs->j+1<=b->r[b-(j+1)]? =some g->lJ e g=true:=fun MN b g hb hj hg=>by
   refine hd b g (MN b hb) (by omega) ?_;rw[show b-j=(b-(j+1))+1 by omega];simpa using hg
  cases ha:sy l f.x.kC with
  |true =>
   rw[ha]at h;exact qe he qT h (shift fun b hb=>hb)
  |false =>
   rw[ha]at h;simp only[fm]at h⊢;cases S9:zp e.x f.x with
   |false=>rw[S9]at h;simp at h
   |true =>
    rw[S9]at h;simp only[gP]at h;cases hr:nz i e.x l (j+1) (r.map (·.x))with
    |none=>rw[hr]at h;simp at h
    |some qs =>
     rw[hr]at h;simp only[ai]at h;have Uo:lJ e f=true:=by
      cases ND:Ir e.x f.x with
      |true=>exact L4 he (hs f (by simp)) ND
      |false =>
       rw[ND]at h;exact hd j f (by rw[<-h];simp) (ax _) (by simp)
     rw[HB S9 Uo,bh];exact qe he qT hr (shift fun b hb=>by
      rw[<-h];cases Ir e.x f.x <;>simp[hb])
theorem sf:∀{es:List En} {i:Nat} {ps:List (Nat×Nat)},(∀f∈es,IY f)->se i (es.map (·.x))=some ps ->
    (∀a b e f,(a,b)∈ps->i<=a->i<=b->es[a-i]? =some e->es[b-i]? =some f->lJ e f=true)->eA i es=true
 |[],i,ps,_,_,_=>rfl
 |e::r,i,ps,hs,h,hd=>by
  simp only[aX,se]at h;cases h1:(Ni e.x&&kX i e.x.kC)with
  |false=>rw[h1]at h;simp at h
  |true =>
   rw[h1]at h;simp only[gP]at h;simp only[bq]at h1;cases ha:nz i e.x [i] (i+1) (r.map (·.x))with
   |none=>rw[ha]at h;simp at h
   |some as =>
    cases hb:se (i+1) (r.map (·.x))with
    |none=>rw[ha,hb]at h;simp at h
    |some bs =>
     rw[ha,hb]at h;simp only[ai]at h;have jb:ij e=true:=h1.1;have Pj:=qe (hs e (by simp)) (fun f hf=>hs f (by simp[hf])) ha (fun b f hm hj hf=>by
      refine hd i b e f (by rw[<-h];simp[hm]) (ax _) (by omega) (by simp) ?_;rw[show b-i=(b-(i+1))+1 by omega];simpa using hf)
     have RN:=sf (fun f hf=>hs f (by simp[hf])) hb (fun a b f g hm Nz Ay hf hg=>by
      refine hd a b f g (by rw[<-h];simp[hm]) (by omega) (by omega) ?_ ?_
      ·rw[show a-i=(a-(i+1))+1 by omega];simpa using hf
      ·rw[show b-i=(b-(i+1))+1 by omega];simpa using hg)
     simp only[eA,h1.2,jb,Pj,RN,M6,Bool.and_self]
theorem vB{T:cL}{C:Cl}:∀{l:List aV} {st bV:St} {es:List En},j0 T C l st=some (es,bV)->es.map (·.x)=l/\∀e∈es,IY e
 |[],st,bV,es,h=>by simp[j0]at h;obtain⟨rfl,rfl⟩:=h;simp
 |x::r,st,bV,es,h=>by
  simp only[j0]at h;split at h
  ·rename_i e st1 h1;split at h
   ·rename_i es' wq h2;simp at h;obtain⟨rfl,rfl⟩:=h;obtain⟨k1,k2⟩:=Bn h1;obtain⟨g2,g3⟩:=vB h2;refine⟨by simp[k1,g2],fun f hf=>?_⟩;rcases aS.1 hf with rfl|hf
    ·exact k2
    ·exact g3 f hf
   ·simp at h
  ·simp at h
theorem gA{T:cL}{st:St}{Q:Exit->St->Prop}{l:List aV}{ps:List (Nat×Nat)}(hp:se 0 l=some ps)(h:zC T l st [] (fun es bV=>iu es ps=true/\Q .normal bV)):Wp T false (.draw l) st Q:=by
 refine tk.2 ?_;obtain⟨es,bV,h1,h2,h3⟩:=h;refine⟨es,bV,h1,?_,h3⟩;simp only[cy,aE]at h2⊢;obtain⟨g1,g2⟩:=vB h1;exact sf g2 (by rw[g1];exact hp) (fun a b e f hm _ _ he hf=>ud h2 a b hm e f (by simpa using he) (by simpa using hf))
theorem cz{T:cL}{st:St}{Q:Exit->St->Prop}{l:List aV}(hp:se 0 l=some []):Wp T false (.draw l) st Q↔vL T l st (Q .normal):=by
 constructor
 ·rintro⟨e,bV,h,hq⟩
  cases h;rename_i h;unfold eY at h;split at h
  ·rename_i es st1 h1;split at h
   ·simp at h;subst h;exact⟨es,_,h1,hq⟩
   ·simp at h
  ·simp at h
 ·rintro⟨es,bV,h,hq⟩
  refine⟨_,_,.draw ?_,hq⟩;unfold eY;have:j0 T (D T) l (lg false st)=some (es,bV):=h;rw[this];obtain⟨g1,g2⟩:=vB h;have hc:eA 0 es=true:=sf g2 (by rw[g1];exact hp) (fun a b e f hm=>by simp at hm);simp only[hc]
/-! ### Q3 that call V5 the GN blocks -/
section
variable{T:cL}{x:aV}{l:List aV}{st:St}{acc:List Hn}{K:List Hn->St->Prop}
end
end
def DB:bz :=
(.seq (.ops [
eu 10 .lss 9 8 []])
(.seq (.cond (.t 10)
.skip
(.exit 0))
(.seq (.block 1
(.seq (.ops [
ft 11 10 7 9 [],
bZ 12 10 11 [0],
aP 5 (.alloc [.pv (.int .i64 0),.pv (.int .i64 0),.pv (.int .u64 0),.pv (.int .u64 0),.pv (.int .u64 0),.pv (.int .u64 0),.pv (.int .u64 0),.pv (.int .u64 0),.pv (.int .u64 0),.pv (.int .u64 0)]) [],
dg 10 5 12 [2,1,0,1,2]])
(.ops [
aq 13 3 [],
bP 14 1 5 [],
bQ 15 1 14 [1],
aP 16 (.cv 1 1 [.pv (.int .i64 0)] [(0,1,(.t 15))]) [2],
aP 17 (.append 1 8 (.t 13) (.t 16)) [0,3],
aq 3 17 [4,4,0,1,2,3,4]])))
(.ops [
cM 18 .add 9 1 [],
aq 9 18 [0]]))))
def f84:bg:=⟨23,[.t 2],
(.seq (.ops [
df 1 0 [],
aP 2 (.mv (.c .bu)) []])
(.seq (.ops [
aP 3 (.mv (.c .bu)) []])
(.seq (.seq (.ops [
bP 6 0 1 [],
bQ 7 1 6 [0],
fW 8 7 [1],
cT 9 0 []])
(.block 0
(.loop DB)))
(.seq (.ops [
aq 19 3 [],
aP 20 (.call 293 [.t 19]) [0]])
(.seq (.ops [
aq 21 3 [],
aP 22 (.call 281 [.t 21]) [0],
aq 2 22 [1,1,0,1]])
.ret)))))⟩
def y9:bz :=
(.seq (.seq (.ops [
aq 6 5 [],
bP 7 0 2 [],
bQ 8 1 7 [1],
fW 9 8 [2],
eu 10 .lss 6 9 [0,3]])
(.cond (.t 10)
.skip
(.exit 0)))
(.seq (.block 1
(.seq (.ops [
bP 13 0 2 [],
bQ 14 1 13 [0],
aq 15 5 [],
ft 16 6 14 15 [1,2],
bP 17 0 16 [3],
bQ 18 1 17 [4],
aq 19 1 [],
eu 20 .eql 18 19 [5,6]])
(.cond (.t 20)
(.seq (.ops [
aq 21 5 [],
aq 4 21 [0,0]])
.ret)
.skip)))
(.ops [
aq 11 5 [],
cM 12 .add 11 1 [0],
aq 5 12 [1,0,1]])))
def f157:bg:=⟨22,[.t 4],
(.seq (.ops [
df 2 0 [],
cT 4 0 []])
(.seq (.seq (.ops [
cT 5 0 []])
(.block 0
(.loop y9)))
(.seq (.ops [
cT 4 (-1) []])
.ret)))⟩
def rP:bz :=
(.seq (.seq (.draw [
aq 14 5 [],
aq 15 3 [],
fW 16 15 [1],
eu 17 .lss 14 16 [0,2],
aq 18 17 [3],
eP 19 18 true 3 [4],
eP 20 18 true 5 [4],
zD 21 18 true 1 19 20 [5,6,4],
dP 22 18 true 1 21 [7,4],
dX 23 18 true 0 1 [4],
dP 24 18 true 1 23 [9,4],
eP 25 18 true 4 [4],
zD 26 18 true 10 24 25 [10,11,4],
dX 27 18 true 1 26 [12,4],
dP 28 18 true 1 27 [13,4],
dU 29 18 true (.bin .lss none (.t 22) (.t 28)) [8,14,4],
ib 30 18 29 [4,15]])
(.cond (.t 30)
.skip
(.exit 2)))
(.block 3
(.ops [
aq 31 5 [],
cM 32 .add 31 1 [0],
aq 5 32 [1,0,1]])))
def rQ:bz :=
(.seq (.seq (.ops [
aq 7 4 [],
bP 8 0 1 [],
bQ 9 1 8 [1],
fW 10 9 [2],
eu 11 .lss 7 10 [0,3]])
(.cond (.t 11)
.skip
(.exit 0)))
(.seq (.block 1
(.seq (.ops [
cT 5 0 []])
(.seq (.block 2
(.loop rP))
(.seq (.seq (.draw [
aq 33 5 [],
aq 34 3 [],
fW 35 34 [1],
eu 36 .lss 33 35 [0,2],
aq 37 36 [3],
eP 38 37 true 3 [4],
eP 39 37 true 5 [4],
zD 40 37 true 1 38 39 [5,6,4],
dP 41 37 true 1 40 [7,4],
dX 42 37 true 0 1 [4],
dP 43 37 true 1 42 [9,4],
eP 44 37 true 4 [4],
zD 45 37 true 10 43 44 [10,11,4],
dX 46 37 true 1 45 [12,4],
dP 47 37 true 1 46 [13,4],
dU 48 37 true (.bin .eql none (.t 41) (.t 47)) [8,14,4],
ib 49 37 48 [4,15]])
(.cond (.t 49)
(.exit 1)
.skip))
(.seq (.ops [
aP 50 (.cv 1 0 [] []) [],
aq 51 3 [],
aq 52 5 [],
aP 53 (.slice 1 (.t 51) none (some (.t 52))) [1,2],
aP 54 (.append 1 8 (.t 50) (.t 53)) [0,3],
aq 6 54 [4,4,0,1,2,3,4]])
(.seq (.ops [
aq 55 6 [],
bP 56 0 1 [],
bQ 57 1 56 [1],
aq 58 4 [],
ft 59 10 57 58 [2,3],
bP 60 1 59 [4],
bQ 61 1 60 [5],
aP 62 (.cv 1 1 [.pv (.int .i64 0)] [(0,1,(.t 61))]) [6],
aP 63 (.append 1 8 (.t 55) (.t 62)) [0,7],
aq 6 63 [8,8,0,1,2,3,4,5,6,7,8]])
(.ops [
aq 64 6 [],
aq 65 3 [],
aq 66 5 [],
aP 67 (.slice 1 (.t 65) (some (.t 66)) none) [1,2],
aP 68 (.append 1 8 (.t 64) (.t 67)) [0,3],
aq 3 68 [4,4,0,1,2,3,4]])))))))
(.ops [
aq 12 4 [],
cM 13 .add 12 1 [0],
aq 4 13 [1,0,1]])))
def f158:bg:=⟨70,[.t 2],
(.seq (.ops [
df 1 0 [],
aP 2 (.mv (.c .bu)) []])
(.seq (.ops [
aP 3 (.mv (.c .bu)) []])
(.seq (.seq (.ops [
cT 4 0 []])
(.block 0
(.loop rQ)))
(.seq (.ops [
aq 69 3 [],
aq 2 69 [0,0]])
.ret))))⟩
def yG:bz :=
(.seq (.ops [
eu 11 .lss 10 9 []])
(.seq (.cond (.t 11)
.skip
(.exit 0))
(.seq (.block 1
(.seq (.ops [
aq 12 10 [],
ft 13 5 8 10 [],
bZ 14 5 13 [1],
aP 6 (.alloc [.pv (.int .i64 0),.pv (.bool false),.pv (.int .i64 0),.pv (.int .i64 0),.pv (.int .i64 0)]) [],
aq 5 12 [0,0,1,2,3],
dg 5 6 14 [3,2,4,0,1,2,3,4]])
(.seq (.draw [
bP 15 2 6 [],
bQ 16 1 15 [0],
cM 17 .gtr 16 0 [1],
aq 18 17 [2],
dU 19 18 true (.load true 3 (.t 2)) [3],
dU 20 18 true (.load true 3 (.t 3)) [3],
dX 21 18 true 0 6 [3],
dP 22 18 true 1 21 [6,3],
dU 23 18 true (.call 236 [.t 19,.t 20,.t 22]) [4,5,7,3,3],
dX 24 18 true 2 6 [3],
dP 25 18 true 1 24 [9,3],
dU 26 18 true (.bin .gtr none (.t 23) (.t 25)) [8,10,3],
ib 27 18 26 [3,11]])
(.cond (.t 27)
(.seq (.ops [
aq 28 5 [],
aP 29 (.build [.pv (.int .i64 0),.pv (.int .i64 0)] [(0,1,(.t 28)),(1,1,(.c (.pv (.int .i64 11))))]) [0],
df 30 29 [1],
aP 31 (.kO 1 (.t 30)) [2],
aq 4 31 [3,0,1,2,3]])
.ret)
.skip))))
(.ops [
cM 32 .add 10 1 [],
aq 10 32 [0]]))))
def f234:bg:=⟨33,[.t 4],
(.seq (.ops [
df 2 0 [],
df 3 1 [],
jm 4 []])
(.seq (.seq (.ops [
bP 7 1 2 [],
bQ 8 1 7 [0],
fW 9 8 [1],
cT 10 0 []])
(.block 0
(.loop yG)))
(.seq (.ops [
jm 4 []])
.ret)))⟩
def uy:bz :=
(.seq (.ops [
eu 18 .lss 17 16 []])
(.seq (.cond (.t 18)
.skip
(.exit 0))
(.seq (.block 1
(.seq (.ops [
ft 19 8 15 17 [],
bZ 20 8 19 [0],
aP 11 (.alloc [.pv (.int .i64 0),.pv (.int .i64 0),.pv (.int .i64 0),.pv (.int .u64 0),.pv (.int .u64 0),.pv (.int .u64 0),.pv (.int .u64 0),.pv (.int .i64 0)]) [],
dg 8 11 20 [2,1,0,1,2]])
(.seq (.ops [
bZ 22 3 4 [],
bP 23 7 11 [],
bQ 24 1 23 [1],
aP 25 (.call 82 [.t 22,.t 24]) [0,2],
aq 21 25 [3],
fc 26 21 0 [4],
fc 27 21 1 [4],
aP 12 (.alloc [.pv (.int .i64 0),.pv (.int .i64 0),.pv (.int .u64 0),.pv (.int .u64 0),.pv (.int .u64 0),.pv (.int .u64 0),.pv (.int .u64 0),.pv (.int .u64 0),.pv (.int .u64 0),.pv (.int .u64 0)]) [],
dg 10 12 26 [7,5,3,0,1,2,3,4,5,7],
aq 13 27 [6,8,0,1,2,3,4,5,6,7,8]])
(.seq (.ops [
bP 28 1 11 [],
bQ 29 1 28 [0],
aq 30 2 [],
eu 31 .eql 29 30 [1,2],
aq 32 31 [3],
dX 33 32 true 7 11 [4],
dP 34 32 true 1 33 [5,4],
fV 35 32 true .neq 34 0 [6,4],
ib 36 32 35 [4,7],
aq 37 36 [8,4],
eP 38 37 true 13 [9],
ib 39 37 38 [9,10],
aq 40 39 [11,9],
dX 41 40 true 1 12 [12],
dP 42 40 true 1 41 [13,12],
eP 43 40 true 3 [12],
dU 44 40 true (.bin .eql none (.t 42) (.t 43)) [14,15,12],
ib 45 40 44 [12,16]])
(.cond (.t 45)
(.ops [
aq 46 9 [],
cM 47 .add 46 1 [0],
aq 9 47 [1,0,1]])
.skip)))))
(.ops [
cM 48 .add 17 1 [],
aq 17 48 [0]]))))
def f235:bg:=⟨50,[.t 8],
(.seq (.ops [
df 4 0 [],
df 5 1 [],
cT 8 0 []])
(.seq (.ops [
cT 9 0 []])
(.seq (.seq (.ops [
bP 14 0 5 [],
bQ 15 1 14 [0],
fW 16 15 [1],
cT 17 0 []])
(.block 0
(.loop uy)))
(.seq (.ops [
aq 49 9 [],
aq 8 49 [0,0]])
.ret))))⟩
def yH:bz :=
(.seq (.ops [
eu 14 .lss 13 12 []])
(.seq (.cond (.t 14)
.skip
(.exit 0))
(.seq (.block 1
(.seq (.ops [
ft 15 1 11 13 [],
bQ 16 1 15 [0],
aq 9 16 [1,0,1]])
(.ops [
aq 17 7 [],
bZ 18 3 3 [],
bZ 19 3 4 [],
aq 20 2 [],
aq 21 9 [],
aP 22 (.call 235 [.t 18,.t 19,.t 20,.t 21]) [1,2,3,4],
aP 23 (.cv 1 1 [.pv (.int .i64 0)] [(0,1,(.t 22))]) [5],
aP 24 (.append 1 8 (.t 17) (.t 23)) [0,6,5],
aq 7 24 [7,7,0,1,2,3,4,5,6,7]])))
(.ops [
cM 25 .add 13 1 [],
aq 13 25 [0]]))))
def f236:bg:=⟨34,[.t 6],
(.seq (.ops [
df 3 0 [],
df 4 1 [],
cT 6 0 []])
(.seq (.ops [
aP 7 (.mv (.c .bu)) []])
(.seq (.seq (.ops [
bZ 10 3 3 [],
aP 11 (.call 84 [.t 10]) [0],
fW 12 11 [1],
cT 13 0 []])
(.block 0
(.loop yH)))
(.seq (.seq (.ops [
aq 26 7 [],
fW 27 26 [0],
cM 28 .eql 27 0 [1]])
(.cond (.t 28)
(.seq (.ops [
cT 6 0 []])
.ret)
.skip))
(.seq (.ops [
aq 29 7 [],
aP 30 (.call 290 [.t 29]) [0],
aq 31 7 [],
aP 32 (.call 291 [.t 31]) [2,1],
eu 33 .sub 30 32 [1,3],
aq 6 33 [4,3,0,1,2,3,4]])
.ret)))))⟩
section
def eb(s:bc):List Int:=eo (s.nodes.map Node.bX)
structure NV(T:cL):Prop where
 Fu:T.fP 293=some oU
 FF:T.raw 293=true
 Ft:T.fP 281=some om
 FE:T.raw 281=true
 Uf:Std T 84 f84
section
variable{T:cL}
theorem D4(s:bc)(hl:s.nodes.length<=2^29)(Q:Exit->St->Prop)
    (bS:∀fr hp nx,fk (look fr 3) hp 1 ((s.nodes.map Node.bX).map cF) 1 nx->Q (.exit 0) ⟨fr,hp,nx⟩) :
    ∀(rest:List Node) (i:Nat) (acc:List Int),s.nodes.drop i=rest->i<=s.nodes.length->acc++rest.map Node.bX=s.nodes.map Node.bX->∀(fr:List (Nat×AV)) (hp:Hl) (nx:Nat),1<=nx->look fr 7=.pv (.slice (s.nodes.map bB))->look fr 8=.pv (.int .i64 s.nodes.length)->look fr 9=.pv (.int .i64 i) ->
     fk (look fr 3) hp 1 (acc.map cF) 1 nx->Wp T false (.loop DB) ⟨fr,hp,nx⟩ Q:=by
 intro rest;induction rest with
 |nil =>
  intro i acc hd hi ho fr hp nx gR h7 h8 h9 h3;have hlen:=drop_nil hd hi;simp only[az,bH]at ho;subst ho;rw[ay,aY DB.eq_1];simp only[rL',aa,simprocAttr,h7,h8,h9,hlen,aR];exact bS _ _ _ (by simp only[aj,Nat.reduceEqDiff];exact h3)
 |cons n r ih =>
  intro i acc hd hi ho fr hp nx gR h7 h8 h9 h3;obtain⟨aK,hlt,hw,di,cS,hb⟩:=drop_cons hd (by omega);have hlen:acc.length+1<=2^30:=by
   have:=de List.length ho;simp at this;omega
  have pY:=((h3.over (i:=nx) (b:=.var [.pv (.int .i64 0),.pv (.int .i64 0),.pv (.int .u64 0),.pv (.int .u64 0),.pv (.int .u64 0),.pv (.int .u64 0),.pv (.int .u64 0),.pv (.int .u64 0),.pv (.int .u64 0),.pv (.int .u64 0)]) (.inr (ax _))).over (i:=nx) (b:=.var (dK (bB n))) (.inr (ax _))).up (Nat.le_succ nx);obtain⟨v',W,k,a1,a2,a3⟩:=pY.mj (by omega) (cF n.bX) (by rw[al];omega);simp only[cF,bB,dK]at a1 a3;rw[ay,aY DB.eq_1];simp only[rL',aa,simprocAttr,h7,h8,h9,hlt,aK,bB,bt,dW,chunk,cq,bL,bW,a1,hw];refine ih (i+1) (acc++[n.bX]) di cS (by rw[<-ho];simp) _ _ _ (by omega) ?_ ?_ ?_ ?_
  all_goals try simp only[aj,Nat.reduceEqDiff,h7,h8]
  simpa only[bj,aX,az,cF]using a3
theorem IQ(S:NV T)(s:bc)(hl:s.nodes.length<=2^29):ba T 84 [aD s] (.slice ((eb s).map cF)):=by
 refine gives S.Uf rfl ?_;simp only[f84,rL',aa,simprocAttr,aD];refine D4 s hl _ (fun fr hp nx h3=>?_) s.nodes 0 [] rfl (aN _) rfl _ _ _ (ax _) rfl rfl rfl fk.nil;rcases h3 with⟨he,h3⟩|⟨id,h3,i1,i2,i3⟩
 ·have hz:s.nodes.map Node.bX=[]:=by simpa using he
  simp only[rL',aa,simprocAttr,h3];rw[dr S.FF (im S.Fu (show oU [.bu] hp nx=some (.pv (.tuple []),hp,nx)from rfl))];simp only[rL',aa,simprocAttr,h3];rw[dr S.FE (im S.Ft (show om [.bu] hp nx=some (.bu,hp,nx)from rfl))];have hn:eo []=[]:=cu (by have:=fu [];simpa using this);simp only[rL',aa,simprocAttr,eb,hz,hn,az]
 ·have hlen:(s.nodes.map Node.bX).length<=2^30:=by rw[al];omega
  have e1:oU [.ms id] hp nx=some (.pv (.tuple []),(id,.row 1 ((ga (s.nodes.map Node.bX)).map cF))::hp,nx):=by
   simp only[oU,i3,mL,hlen,bA]
  simp only[rL',aa,simprocAttr,h3];rw[dr S.FF (im S.Fu e1)];simp only[rL',aa,simprocAttr,h3];have Ht:(ga (s.nodes.map Node.bX)).length<=2^30:=by rw[kK];exact hlen
  have e2:om [.ms id] ((id,.row 1 ((ga (s.nodes.map Node.bX)).map cF))::hp) nx=some (.gd id 0 (eb s).length,(id,.row 1 (((eb s)++List.replicate ((ga (s.nodes.map Node.bX)).length-(eb s).length) 0).map cF))::(id,.row 1 ((ga (s.nodes.map Node.bX)).map cF))::hp,nx):=by
   simp only[om,aF,bA,mL,Ht];rfl
  rw[dr S.FE (im S.Ft e2)];have hle:(eb s).length<=(eb s).length+(List.replicate ((ga (s.nodes.map Node.bX)).length-(eb s).length) (0:Int)).length:=Nat.le_add_right _ _;simp only[rL',aa,simprocAttr,bj,aM,hle,List.take_append_of_le_length,al,ax,zA];rw[qo (by rw[al];exact ax _)]
/-! ### QH -/
def qk(s:bc)(node bX:Int):Bool:=match dv node s.nodes with
 |some x=>decide (x.bX=bX)
 |none=>false
def uQ(s:bc)(load bX:Int)(p:dx):Bool:=decide (p.load=load)&&(decide (p.node≠0)&&qk s p.node bX)
def fN(s:bc)(load bX:Int):List dx->Nat
 |[]=>0
 |p::r=>(if uQ s load bX p=true then 1 else 0)+fN s load bX r
theorem lQ(s:bc)(load bX:Int):∀l,fN s load bX l<=l.length
 |[]=>ax _
 |p::r=>by
  have:=lQ s load bX r;simp only[fN,aC];split <;>omega
structure BB(T:cL):Prop where
 z:NV T
 Kc:Std T 82 f82
 Rt:Std T 235 f235
 Ru:Std T 236 f236
 Su:xF T 290 (qE mostL)
 Sw:xF T 291 (qE leastL)
 Od:T.flat 290=true
 Oe:T.flat 291=true
theorem BX(S:BB T)(s:bc)(t:State)(load bX:Int)(hn:s.nodes.length<=2^29)(hl:t.pods.length<=2^29)(Q:Exit->St->Prop)
    (bS:∀fr hp nx,look fr 9=.pv (.int .i64 (fN s load bX t.pods:Nat))->Q (.exit 0) ⟨fr,hp,nx⟩) :
    ∀(rest:List dx) (i acc:Nat),t.pods.drop i=rest->i<=t.pods.length->acc+fN s load bX rest=fN s load bX t.pods->∀(fr:List (Nat×AV)) (hp:Hl) (nx:Nat),2<=nx->look fr 2=.pv (.int .i64 load)->look fr 3=.pv (.int .i64 bX)->look fr 4=.ptr 0 0 0 ->
     ah hp 0=.var [.pv (.slice (s.nodes.map bB)),.pv (.slice (s.aU.map bN)),.pv (.slice (s.pods.map aJ))]->look fr 9=.pv (.int .i64 (acc:Int))->look fr 15=.pv (.slice (t.pods.map aJ))->look fr 16=.pv (.int .i64 t.pods.length)->look fr 17=.pv (.int .i64 i)->Wp T false (.loop uy) ⟨fr,hp,nx⟩ Q:=by
 intro rest;induction rest with
 |nil =>
  intro i acc hd hi ho fr hp nx gR g2 g3 g4 b0 g9 te tv JU;have hlen:=drop_nil hd hi;simp only[fN,fa]at ho;subst ho;rw[ay,aY uy.eq_1];simp only[rL',aa,simprocAttr,te,tv,JU,hlen,aR];exact bS _ _ _ (by simp only[aj,Nat.reduceEqDiff];exact g9)
 |cons p r ih =>
  intro i acc hd hi ho fr hp nx gR g2 g3 g4 b0 g9 te tv JU;obtain⟨aK,hlt,hw,di,cS,hb⟩:=drop_cons hd (by omega);have n0:¬nx=0:=by omega
  have C9:acc+1<=2^30:=by
   have h1:=lQ s load bX t.pods;have h2:=lQ s load bX (p::r);omega
  have k:=tz S.Kc s p.node (by omega);simp only[aD]at k;have skip:uQ s load bX p=false->∀fE hp' cE,2<=cE->look fE 2=look fr 2->look fE 3=look fr 3->look fE 4=look fr 4->ah hp' 0=ah hp 0->look fE 9=look fr 9->look fE 15=look fr 15->look fE 16=look fr 16->look fE 17=.pv (.int .i64 ((i+1:Nat):Int))->Wp T false (.loop uy) ⟨fE,hp',cE⟩ Q:=by
   intro h fE hp' cE q1 q2 q3 q4 q5 q6 q7 q8 q9;exact ih (i+1) acc di cS (by rw[<-ho,fN,h];simp) _ _ _ q1 (q2.trans g2) (q3.trans g3) (q4.trans g4) (q5.trans b0) (q6.trans g9) (q7.trans te) (q8.trans tv) q9
  rw[ay,aY uy.eq_1];by_cases c1:p.load=load
  ·have d1:=bI c1;by_cases c2:p.node=0
   ·have d2:=bI c2;have hz:uQ s load bX p=false:=by simp[uQ,c2]
    cases qR:dv p.node s.nodes with
    |none =>
     rw[qR]at k;simp only[jZ,bB,mO]at k;simp only[rL',aa,simprocAttr,g2,g3,g4,b0,te,tv,JU,hlt,aK,aJ,n0,k.call,d1,d2,hw];refine skip hz _ _ _ (by omega) ?_ ?_ ?_ ?_ ?_ ?_ ?_ ?_
     all_goals try simp only[aj,Nat.reduceEqDiff,n0]
    |some x =>
     rw[qR]at k;simp only[jZ,bB]at k;simp only[rL',aa,simprocAttr,g2,g3,g4,b0,te,tv,JU,hlt,aK,aJ,n0,k.call,d1,d2,hw];refine skip hz _ _ _ (by omega) ?_ ?_ ?_ ?_ ?_ ?_ ?_ ?_
     all_goals try simp only[aj,Nat.reduceEqDiff,n0]
   ·cases qR:dv p.node s.nodes with
    |none =>
     have hz:uQ s load bX p=false:=by simp[uQ,qk,qR]
     rw[qR]at k;simp only[jZ,bB,mO]at k;simp only[rL',aa,simprocAttr,g2,g3,g4,b0,te,tv,JU,hlt,aK,aJ,n0,k.call,d1,c2,hw];refine skip hz _ _ _ (by omega) ?_ ?_ ?_ ?_ ?_ ?_ ?_ ?_
     all_goals try simp only[aj,Nat.reduceEqDiff,n0]
    |some x =>
     rw[qR]at k;simp only[jZ,bB]at k;by_cases c3:x.bX=bX
     ·have d3:=bI c3;have hz:uQ s load bX p=true:=by simp[uQ,qk,qR,c1,c2,c3]
      have MS:IntKind.i64.wrap ((acc:Int)+1)=((acc+1:Nat):Int):=by rw[f9] <;>omega
      simp only[rL',aa,simprocAttr,g2,g3,g4,b0,g9,te,tv,JU,hlt,aK,aJ,n0,k.call,d1,c2,d3,hw,MS];refine ih (i+1) (acc+1) di cS (by rw[<-ho,fN,hz];simp;omega) _ _ _ (by omega) ?_ ?_ ?_ ?_ ?_ ?_ ?_ ?_
      all_goals try simp only[aj,Nat.reduceEqDiff,n0,g2,g3,g4,b0,te,tv]
     ·have hz:uQ s load bX p=false:=by simp[uQ,qk,qR,c3]
      simp only[rL',aa,simprocAttr,g2,g3,g4,b0,te,tv,JU,hlt,aK,aJ,n0,k.call,d1,c2,c3,hw];refine skip hz _ _ _ (by omega) ?_ ?_ ?_ ?_ ?_ ?_ ?_ ?_
      all_goals try simp only[aj,Nat.reduceEqDiff,n0]
  ·have hz:uQ s load bX p=false:=by simp[uQ,c1]
   cases qR:dv p.node s.nodes with
   |none =>
    rw[qR]at k;simp only[jZ,bB,mO]at k;simp only[rL',aa,simprocAttr,g2,g3,g4,b0,te,tv,JU,hlt,aK,aJ,n0,k.call,c1,hw];refine skip hz _ _ _ (by omega) ?_ ?_ ?_ ?_ ?_ ?_ ?_ ?_
    all_goals try simp only[aj,Nat.reduceEqDiff,n0]
   |some x =>
    rw[qR]at k;simp only[jZ,bB]at k;simp only[rL',aa,simprocAttr,g2,g3,g4,b0,te,tv,JU,hlt,aK,aJ,n0,k.call,c1,hw];refine skip hz _ _ _ (by omega) ?_ ?_ ?_ ?_ ?_ ?_ ?_ ?_
    all_goals try simp only[aj,Nat.reduceEqDiff,n0]
theorem EH(S:BB T)(s:bc)(t:State)(load bX:Int)(hn:s.nodes.length<=2^29)(hl:t.pods.length<=2^29):ba T 235 [aD s,ar t,.int .i64 load,.int .i64 bX] (.int .i64 (fN s load bX t.pods:Nat)):=by
 refine gives S.Rt rfl ?_;simp only[f235,rL',aa,simprocAttr,aD,ar];refine BX S s t load bX hn hl _ (fun fr hp nx g9=>?_) t.pods 0 0 rfl (aN _) (aQ _) _ _ _ (ax _) rfl rfl rfl rfl rfl rfl rfl rfl;simp only[rL',aa,simprocAttr,g9]
/-! ### SO -/
def oj(s:bc)(load:Int)(pods:List dx):List Int:=(eb s).map fun z=>((fN s load z pods:Nat):Int)
def zq(l:List Int):Int:=match l with
 |[]=>0
 |n::r=>mostL (n::r)-leastL (n::r)
def vv(s:bc)(load:Int)(pods:List dx):Int:=zq (oj s load pods)
theorem FN(S:BB T)(s:bc)(t:State)(load:Int)(hn:s.nodes.length<=2^29)(hl:t.pods.length<=2^29)(Q:Exit->St->Prop)
    (bS:∀fr hp nx,fk (look fr 7) hp 1 ((oj s load t.pods).map cF) 2 nx->Q (.exit 0) ⟨fr,hp,nx⟩) :
    ∀(rest:List Int) (i:Nat) (acc:List Int),(eb s).drop i=rest->i<=(eb s).length->acc++rest.map (fun z=>((fN s load z t.pods:Nat):Int))=oj s load t.pods->∀(fr:List (Nat×AV)) (hp:Hl) (nx:Nat),2<=nx->look fr 2=.pv (.int .i64 load)->look fr 3=.ptr 0 0 0->look fr 4=.ptr 1 0 0 ->
     ah hp 0=.var [.pv (.slice (s.nodes.map bB)),.pv (.slice (s.aU.map bN)),.pv (.slice (s.pods.map aJ))]->ah hp 1=.var [.pv (.slice (t.pods.map aJ)),.pv (.int .i64 t.pre),.pv (.int .i64 t.eW)] ->
     look fr 11=.pv (.slice ((eb s).map cF))->look fr 12=.pv (.int .i64 (eb s).length)->look fr 13=.pv (.int .i64 i)->fk (look fr 7) hp 1 (acc.map cF) 2 nx->Wp T false (.loop yH) ⟨fr,hp,nx⟩ Q:=by
 intro rest;have Tw:(eb s).length<=2^29:=by
  have:=fu (s.nodes.map Node.bX);rw[al]at this;exact cQ this hn
 induction rest with
 |nil =>
  intro i acc hd hi ho fr hp nx gR g2 g3 g4 b0 b1 EX nU pf h7;have hlen:=drop_nil hd hi;simp only[az,bH]at ho;subst ho;rw[ay,aY yH.eq_1];simp only[rL',aa,simprocAttr,EX,nU,pf,hlen,aR];exact bS _ _ _ (by simp only[aj,Nat.reduceEqDiff];exact h7)
 |cons z r ih =>
  intro i acc hd hi ho fr hp nx gR g2 g3 g4 b0 b1 EX nU pf h7;obtain⟨aK,hlt,hw,di,cS,hb⟩:=drop_cons hd (by omega);have hlen:acc.length+1<=2^30:=by
   have:=de List.length ho;simp[oj]at this;omega
  have k:=EH S s t load z hn hl;simp only[aD,ar]at k;obtain⟨v',W,m,a1,a2,a3⟩:=h7.mj (by omega) (cF (fN s load z t.pods:Nat)) (by rw[al];omega);simp only[cF]at a1 a3;rw[ay,aY yH.eq_1];simp only[rL',aa,simprocAttr,g2,g3,g4,b0,b1,EX,nU,pf,hlt,aK,cF,k.call,bt,dW,chunk,cq,bL,bW,a1,hw];have z0:=a2 0 (by omega);have z1:=a2 1 (by omega);simp only[cF]at z0 z1;refine ih (i+1) (acc++[((fN s load z t.pods:Nat):Int)]) di cS (by rw[<-ho];simp) _ _ _ (by omega) ?_ ?_ ?_ ?_ ?_ ?_ ?_ ?_ ?_
  all_goals try simp only[aj,Nat.reduceEqDiff,g2,g3,g4,EX,nU]
  ·exact z0.trans b0
  ·exact z1.trans b1
  ·simpa only[bj,aX,az,cF]using a3
theorem nJ(lo hi:Int):∀(l:List Int) (a:Int),lo<=a->a<=hi->(∀x∈l,lo<=x/\x<=hi)->lo<=l.foldl max a/\l.foldl max a<=hi
 |[],a,h1,h2,_=>⟨h1,h2⟩
 |x::r,a,h1,h2,h=>by
  have hx:=h x (bM ..);exact nJ lo hi r (max a x) (by omega) (by omega) (fun y hy=>h y (bf _ hy))
theorem nK(lo hi:Int):∀(l:List Int) (a:Int),lo<=a->a<=hi->(∀x∈l,lo<=x/\x<=hi)->lo<=l.foldl min a/\l.foldl min a<=hi
 |[],a,h1,h2,_=>⟨h1,h2⟩
 |x::r,a,h1,h2,h=>by
  have hx:=h x (bM ..);exact nK lo hi r (min a x) (by omega) (by omega) (fun y hy=>h y (bf _ hy))
theorem B0{lo hi:Int}{n:Int}{r:List Int}(h:∀x∈n::r,lo<=x/\x<=hi):lo<=mostL (n::r)/\mostL (n::r)<=hi:=nJ lo hi _ _ (h n (by simp)).1 (h n (by simp)).2 h
theorem za{lo hi:Int}{n:Int}{r:List Int}(h:∀x∈n::r,lo<=x/\x<=hi):lo<=leastL (n::r)/\leastL (n::r)<=hi:=nK lo hi _ _ (h n (by simp)).1 (h n (by simp)).2 h
theorem A5(s:bc)(load:Int)(pods:List dx):∀x∈oj s load pods,0<=x/\x<=pods.length:=by
 intro x hx;simp only[oj,cC]at hx;obtain⟨z,_,rfl⟩:=hx;have:=lQ s load z pods;omega
theorem Iu(S:BB T)(s:bc)(t:State)(load:Int)(hn:s.nodes.length<=2^29)(hl:t.pods.length<=2^29):ba T 236 [aD s,ar t,.int .i64 load] (.int .i64 (vv s load t.pods)):=by
 refine gives S.Ru rfl ?_;have k:=IQ S.z s hn;simp only[aD]at k;simp only[f236,rL',aa,simprocAttr,aD,ar,k.call];refine FN S s t load hn hl _ (fun fr hp nx h7=>?_) (eb s) 0 [] rfl (aN _) rfl _ _ _ (ax _) rfl rfl rfl rfl rfl rfl ?_ rfl fk.nil
 ·have hr:=A5 s load t.pods;have Ke:(oj s load t.pods).length<=2^30:=by
   have:=fu (s.nodes.map Node.bX);rw[al]at this;simp only[oj,al];exact cQ this (by omega)
  have e7:=h7.len;rw[al]at e7;simp only[vv];cases hc:oj s load t.pods with
  |nil =>
   rw[hc]at e7;have z0:((0:Nat):Int)=0:=rfl;simp only[rL',aa,simprocAttr,e7,z0,zq]
  |cons n r =>
   rw[hc]at e7 hr h7 Ke;have k1:=(DF S.Su (n::r) (by simp) Ke).sE S.Od rfl;have k2:=(DF S.Sw (n::r) (by simp) Ke).sE S.Oe rfl;rcases h7 with⟨he,h7⟩|⟨id,h7,i1,i2,i3⟩
   ·simp at he
   ·have r1:=B0 hr;have r2:=za hr;have UW:IntKind.i64.wrap (mostL (n::r)-leastL (n::r))=mostL (n::r)-leastL (n::r):=by rw[f9] <;>omega
    have ew:¬((r.length+1:Nat):Int)=0:=by omega
    simp only[rL',aa,simprocAttr,h7,i3,ew,k1,k2,UW,zq]
 ·simp only[rL',aa,simprocAttr]
end
end
def Ds:bz :=
(.seq (.ops [
eu 12 .lss 11 10 []])
(.seq (.cond (.t 12)
.skip
(.exit 0))
(.seq (.block 1
(.seq (.ops [
aq 13 11 [],
ft 14 5 9 11 [],
bZ 15 5 14 [1],
aP 6 (.alloc [.pv (.int .i64 0),.pv (.bool false),.pv (.int .i64 0),.pv (.int .i64 0),.pv (.int .i64 0)]) [],
aq 5 13 [0,0,1,2,3],
dg 5 6 15 [3,2,4,0,1,2,3,4]])
(.seq (.ops [
bZ 16 3 3 [],
bP 17 0 6 [],
bQ 18 1 17 [1],
aP 19 (.call 71 [.t 16,.t 18]) [0,2],
aq 7 19 [3,3,0,1,2,3]])
(.block 2
(.seq (.ops [
aq 21 7 [],
bP 22 3 6 [],
bQ 23 1 22 [1],
eu 24 .lss 21 23 [0,2],
aq 20 24 [3]])
(.cond (.t 20)
(.seq (.ops [
aq 25 5 [],
aP 26 (.build [.pv (.int .i64 0),.pv (.int .i64 0)] [(0,1,(.t 25)),(1,1,(.c (.pv (.int .i64 12))))]) [0],
df 27 26 [1],
aP 28 (.kO 1 (.t 27)) [2],
aq 4 28 [3,0,1,2,3]])
.ret)
(.seq (.ops [
aq 30 7 [],
bP 31 4 6 [],
bQ 32 1 31 [1],
eu 33 .gtr 30 32 [0,2],
aq 29 33 [3]])
(.cond (.t 29)
(.seq (.ops [
aq 34 5 [],
aP 35 (.build [.pv (.int .i64 0),.pv (.int .i64 0)] [(0,1,(.t 34)),(1,1,(.c (.pv (.int .i64 13))))]) [0],
df 36 35 [1],
aP 37 (.kO 1 (.t 36)) [2],
aq 4 37 [3,0,1,2,3]])
.ret)
.skip))))))))
(.ops [
cM 38 .add 11 1 [],
aq 11 38 [0]]))))
def f70:bg:=⟨39,[.t 4],
(.seq (.ops [
df 2 0 [],
df 3 1 [],
jm 4 []])
(.seq (.seq (.ops [
bP 8 1 2 [],
bQ 9 1 8 [0],
fW 10 9 [1],
cT 11 0 []])
(.block 0
(.loop Ds)))
(.seq (.ops [
jm 4 []])
.ret)))⟩
def Dt:bz :=
(.seq (.ops [
eu 12 .lss 11 10 []])
(.seq (.cond (.t 12)
.skip
(.exit 0))
(.seq (.block 1
(.seq (.ops [
ft 13 8 9 11 [],
bZ 14 8 13 [0],
aP 7 (.alloc [.pv (.int .i64 0),.pv (.int .i64 0),.pv (.int .i64 0),.pv (.int .u64 0),.pv (.int .u64 0),.pv (.int .u64 0),.pv (.int .u64 0),.pv (.int .i64 0)]) [],
dg 8 7 14 [2,1,0,1,2]])
(.seq (.ops [
bP 15 1 7 [],
bQ 16 1 15 [0],
aq 17 1 [],
eu 18 .eql 16 17 [1,2],
aq 19 18 [3],
dX 20 19 true 7 7 [4],
dP 21 19 true 1 20 [5,4],
fV 22 19 true .neq 21 0 [6,4],
ib 23 19 22 [4,7]])
(.cond (.t 23)
(.ops [
aq 24 5 [],
cM 25 .add 24 1 [0],
aq 5 25 [1,0,1]])
.skip))))
(.ops [
cM 26 .add 11 1 [],
aq 11 26 [0]]))))
def f71:bg:=⟨28,[.t 4],
(.seq (.ops [
df 2 0 [],
cT 4 0 []])
(.seq (.ops [
cT 5 0 []])
(.seq (.seq (.ops [
bP 8 0 2 [],
bQ 9 1 8 [0],
fW 10 9 [1],
cT 11 0 []])
(.block 0
(.loop Dt)))
(.seq (.ops [
aq 27 5 [],
aq 4 27 [0,0]])
.ret))))⟩
def f72:bg:=⟨18,[.t 4],
(.seq (.ops [
df 2 0 [],
df 3 1 [],
jm 4 []])
(.seq (.seq (.ops [
bP 5 1 3 [],
bQ 6 1 5 [0],
bP 7 1 2 [],
bQ 8 1 7 [2],
eu 9 .gtr 6 8 [1,3],
aq 10 9 [4],
dX 11 10 false 2 3 [5],
dP 12 10 false 1 11 [6,5],
dX 13 10 false 2 2 [5],
dP 14 10 false 1 13 [8,5],
dU 15 10 false (.bin .gtr none (.t 12) (.t 14)) [7,9,5],
jJ 16 10 15 [5,10]])
(.cond (.t 16)
(.seq (.ops [
aP 17 (.kO 0 (.c (.pv (.int .i64 15)))) [],
aq 4 17 [0,0]])
.ret)
.skip))
(.seq (.ops [
jm 4 []])
.ret)))⟩
def xX:bz :=
(.seq (.seq (.ops [
aq 6 3 [],
cM 7 .leq 6 17 [0]])
(.cond (.t 7)
.skip
(.exit 0)))
(.seq (.block 1
(.seq (.ops [
aq 10 0 [],
aq 11 3 [],
aP 12 (.kO 0 (.t 11)) [1],
aP 13 (.bin .eql (some (.iface true)) (.t 10) (.t 12)) [0,2]])
(.cond (.t 13)
(.seq (.ops [
aq 14 3 [],
aq 2 14 [0,0]])
.ret)
.skip)))
(.ops [
aq 8 3 [],
cM 9 .add 8 1 [0],
aq 3 9 [1,0,1]])))
def f102:bg:=⟨15,[.t 2],
(.seq (.ops [
cT 2 0 []])
(.seq (.seq (.ops [
aq 4 0 [],
aP 5 (.bin .eql (some (.iface true)) (.t 4) (.c (.pv .dJ))) [0]])
(.cond (.t 5)
(.seq (.ops [
cT 2 0 []])
.ret)
.skip))
(.seq (.seq (.ops [
cT 3 1 []])
(.block 0
(.loop xX)))
(.seq (.ops [
cT 2 (-1) []])
.ret))))⟩
def f105:bg:=⟨17,[.t 6],
(.seq (.ops [
fR 6 false []])
(.seq (.seq (.ops [
aq 7 2 [],
cM 8 .lss 7 0 [0]])
(.cond (.t 8)
(.seq (.ops [
aq 9 0 [],
aP 10 (.call 102 [.t 9]) [0],
aq 11 1 [],
eu 12 .eql 10 11 [1,2],
aq 6 12 [3,1,0,1,2,3]])
.ret)
.skip))
(.seq (.ops [
aq 13 0 [],
aq 14 2 [],
aq 15 1 [],
aP 16 (.call 103 [.t 13,.t 14,.t 15]) [0,1,2],
aq 6 16 [3,3,0,1,2,3]])
.ret)))⟩
def yf:bz :=
(.seq (.seq (.ops [
aq 8 6 [],
bP 9 1 2 [],
bQ 10 1 9 [1],
fW 11 10 [2],
eu 12 .lss 8 11 [0,3]])
(.cond (.t 12)
.skip
(.exit 0)))
(.seq (.block 1
(.seq (.draw [
bZ 15 3 3 [],
bP 16 1 2 [],
bQ 17 1 16 [1],
aq 18 6 [],
ft 19 5 17 18 [2,3],
bP 20 0 19 [4],
bQ 21 1 20 [5],
aP 22 (.call 176 [.t 15,.t 21]) [0,6],
aq 7 22 [7,7,0,1,2,3,4,5,6,7]])
(.seq (.seq (.ops [
aq 23 7 [],
bP 24 1 2 [],
bQ 25 1 24 [1],
aq 26 6 [],
ft 27 5 25 26 [2,3],
bP 28 3 27 [4],
bQ 29 1 28 [5],
eu 30 .lss 23 29 [0,6]])
(.cond (.t 30)
(.seq (.ops [
aq 31 6 [],
cT 4 12 [],
aq 5 31 [0,1,0,1]])
.ret)
.skip))
(.seq (.ops [
aq 32 7 [],
bP 33 1 2 [],
bQ 34 1 33 [1],
aq 35 6 [],
ft 36 5 34 35 [2,3],
bP 37 4 36 [4],
bQ 38 1 37 [5],
eu 39 .gtr 32 38 [0,6]])
(.cond (.t 39)
(.seq (.ops [
aq 40 6 [],
cT 4 13 [],
aq 5 40 [0,1,0,1]])
.ret)
.skip)))))
(.ops [
aq 13 6 [],
cM 14 .add 13 1 [0],
aq 6 14 [1,0,1]])))
def f173:bg:=⟨41,[.t 4,.t 5],
(.seq (.ops [
df 2 0 [],
df 3 1 [],
cT 4 0 [],
cT 5 0 [2]])
(.seq (.seq (.ops [
cT 6 0 []])
(.block 0
(.loop yf)))
(.seq (.ops [
cT 4 0 [],
cT 5 (-1) [0,0]])
.ret)))⟩
def yg:bz :=
(.seq (.seq (.ops [
aq 7 6 [],
bP 8 0 2 [],
bQ 9 1 8 [1],
fW 10 9 [2],
eu 11 .lss 7 10 [0,3]])
(.cond (.t 11)
.skip
(.exit 0)))
(.seq (.block 1
(.seq (.ops [
bP 14 0 2 [],
bQ 15 1 14 [0],
aq 16 6 [],
ft 17 8 15 16 [1,2],
bP 18 1 17 [3],
bQ 19 1 18 [4],
aq 20 1 [],
eu 21 .eql 19 20 [5,6],
aq 22 21 [7],
dX 23 22 true 0 2 [8],
dP 24 22 true 1 23 [9,8],
eP 25 22 true 6 [8],
zD 26 22 true 8 24 25 [10,11,8],
dX 27 22 true 7 26 [12,8],
dP 28 22 true 1 27 [13,8],
fV 29 22 true .neq 28 0 [14,8],
ib 30 22 29 [8,15]])
(.cond (.t 30)
(.ops [
aq 31 5 [],
cM 32 .add 31 1 [0],
aq 5 32 [1,0,1]])
.skip)))
(.ops [
aq 12 6 [],
cM 13 .add 12 1 [0],
aq 6 13 [1,0,1]])))
def f176:bg:=⟨34,[.t 4],
(.seq (.ops [
df 2 0 [],
cT 4 0 []])
(.seq (.ops [
cT 5 0 []])
(.seq (.seq (.ops [
cT 6 0 []])
(.block 0
(.loop yg)))
(.seq (.ops [
aq 33 5 [],
aq 4 33 [0,0]])
.ret))))⟩
def f179:bg:=⟨17,[.t 4],
(.seq (.ops [
df 2 0 [],
df 3 1 [],
fR 4 false []])
(.seq (.ops [
bP 5 1 3 [],
bQ 6 1 5 [0],
bP 7 1 2 [],
bQ 8 1 7 [2],
eu 9 .gtr 6 8 [1,3],
aq 10 9 [4],
dX 11 10 false 2 3 [5],
dP 12 10 false 1 11 [6,5],
dX 13 10 false 2 2 [5],
dP 14 10 false 1 13 [8,5],
dU 15 10 false (.bin .gtr none (.t 12) (.t 14)) [7,9,5],
jJ 16 10 15 [5,10],
aq 4 16 [11,5,0,1,2,3,4,5,6,7,8,9,10,11]])
.ret))⟩
section
section
variable{T:cL}
def gE(load:Int):List dx->Nat
 |[]=>0
 |p::r=>(if p.load=load/\p.node≠0 then 1 else 0)+gE load r
theorem FM(load:Int)(pods:List dx)(hl:pods.length<=2^30)(Q:Exit->St->Prop)(total:Nat)(hQ:∀fr hp nx,look fr 5=.pv (.int .i64 total)->Q (.exit 0) ⟨fr,hp,nx⟩) :
    ∀(rest:List dx) (i k:Nat),pods.drop i=rest->i<=pods.length->k<=i->k+gE load rest=total->∀(fr:List (Nat×AV)) (hp:Hl) (nx:Nat),look fr 5=.pv (.int .i64 k)->look fr 1=.pv (.int .i64 load) ->
     look fr 9=.pv (.slice (pods.map aJ))->look fr 10=.pv (.int .i64 pods.length)->look fr 11=.pv (.int .i64 i)->Wp T false (.loop Dt) ⟨fr,hp,nx⟩ Q:=by
 intro rest;induction rest with
 |nil =>
  intro i k hd hi hk ht fr hp nx h5 h1 h9 h10 h11;have hlen:=drop_nil hd hi;simp only[gE,fa]at ht;subst ht;rw[ay,aY Dt.eq_1];simp only[rM',aa,simprocAttr,h5,h1,h9,h10,h11,hlen,aR];exact hQ _ _ _ (by simp only[bG,Nat.reduceEqDiff,aI,h5])
 |cons p r ih =>
  intro i k hd hi hk ht fr hp nx h5 h1 h9 h10 h11;obtain⟨aK,hlt,hw,di,cS,hb⟩:=drop_cons hd hl;have Sg:IntKind.i64.wrap ((k:Int)+1)=((k+1:Nat):Int):=by rw[f9] <;>omega
  rw[ay,aY Dt.eq_1];by_cases pY:p.load=load
  ·by_cases ql:p.node=0
   ·simp only[rM',aa,simprocAttr,h5,h1,h9,h10,h11,hlt,aK,aJ,pY,ql,hw];refine ih (i+1) k di cS (by omega) (by simpa[gE,ql]using ht) _ _ _ ?_ ?_ ?_ ?_ ?_
    all_goals simp only[bG,Nat.reduceEqDiff,bA,aI,h5,h1,h9,h10]
   ·simp only[rM',aa,simprocAttr,h5,h1,h9,h10,h11,hlt,aK,aJ,pY,ql,hw,Sg];refine ih (i+1) (k+1) di cS (by omega) (by simp[gE,pY,ql]at ht;omega) _ _ _ ?_ ?_ ?_ ?_ ?_
    all_goals simp only[bG,Nat.reduceEqDiff,bA,aI,h5,h1,h9,h10]
  ·simp only[rM',aa,simprocAttr,h5,h1,h9,h10,h11,hlt,aK,aJ,pY,hw];refine ih (i+1) k di cS (by omega) (by simpa[gE,pY]using ht) _ _ _ ?_ ?_ ?_ ?_ ?_
   all_goals simp only[bG,Nat.reduceEqDiff,bA,aI,h5,h1,h9,h10]
theorem L5(Lt:Std T 71 f71)(t:State)(load:Int)(h:t.pods.length<=2^30):ba T 71 [ar t,.int .i64 load] (.int .i64 (gE load t.pods)):=by
 refine gives Lt rfl ?_;simp only[f71,rM',aa,simprocAttr,ar];refine FM load t.pods h _ (gE load t.pods) (fun fr hp nx h5=>?_) t.pods 0 0 rfl (aN _) (ax _) (aQ _) _ _ _ rfl rfl rfl rfl rfl;simp only[rM',aa,simprocAttr,h5]
theorem CP(load:Int)(t:State)(hl:t.pods.length<=2^30)(Q:Exit->St->Prop)(total:Nat)(hQ:∀fr hp nx,look fr 5=.pv (.int .i64 total)->Q (.exit 0) ⟨fr,hp,nx⟩) :
    ∀(rest:List dx) (i k:Nat),t.pods.drop i=rest->i<=t.pods.length->k<=i->k+gE load rest=total->∀(fr:List (Nat×AV)) (hp:Hl) (nx:Nat),look fr 5=.pv (.int .i64 k)->look fr 1=.pv (.int .i64 load) ->
     look fr 2=.ptr 0 0 0->ah hp 0=.var [.pv (.slice (t.pods.map aJ)),.pv (.int .i64 t.pre),.pv (.int .i64 t.eW)]->look fr 6=.pv (.int .i64 i)->Wp T false (.loop yg) ⟨fr,hp,nx⟩ Q:=by
 intro rest;induction rest with
 |nil =>
  intro i k hd hi hk ht fr hp nx h5 h1 h2 b0 h6;have hlen:=drop_nil hd hi;simp only[gE,fa]at ht;subst ht;rw[ay,aY yg.eq_1];simp only[rM',aa,simprocAttr,h5,h1,h2,b0,h6,hlen,aR];exact hQ _ _ _ (by simp only[bG,Nat.reduceEqDiff,aI,h5])
 |cons p r ih =>
  intro i k hd hi hk ht fr hp nx h5 h1 h2 b0 h6;obtain⟨aK,hlt,hw,di,cS,hb⟩:=drop_cons hd hl;have Sg:IntKind.i64.wrap ((k:Int)+1)=((k+1:Nat):Int):=by rw[f9] <;>omega
  rw[ay,aY yg.eq_1];by_cases pY:p.load=load
  ·by_cases ql:p.node=0
   ·simp only[rM',aa,simprocAttr,h5,h1,h2,b0,h6,hlt,aK,aJ,pY,ql,hw];refine ih (i+1) k di cS (by omega) (by simpa[gE,ql]using ht) _ _ _ ?_ ?_ ?_ b0 ?_
    all_goals simp only[bG,Nat.reduceEqDiff,bA,aI,h5,h1,h2]
   ·simp only[rM',aa,simprocAttr,h5,h1,h2,b0,h6,hlt,aK,aJ,pY,ql,hw,Sg];refine ih (i+1) (k+1) di cS (by omega) (by simp[gE,pY,ql]at ht;omega) _ _ _ ?_ ?_ ?_ b0 ?_
    all_goals simp only[bG,Nat.reduceEqDiff,bA,aI,h5,h1,h2]
  ·simp only[rM',aa,simprocAttr,h5,h1,h2,b0,h6,hlt,aK,aJ,pY,hw];refine ih (i+1) k di cS (by omega) (by simpa[gE,pY]using ht) _ _ _ ?_ ?_ ?_ b0 ?_
   all_goals simp only[bG,Nat.reduceEqDiff,bA,aI,h5,h1,h2]
theorem It(At:Std T 176 f176)(t:State)(load:Int)(h:t.pods.length<=2^30):ba T 176 [ar t,.int .i64 load] (.int .i64 (gE load t.pods)):=by
 refine gives At rfl ?_;simp only[f176,rM',aa,simprocAttr,ar];refine CP load t h _ (gE load t.pods) (fun fr hp nx h5=>?_) t.pods 0 0 rfl (aN _) (ax _) (aQ _) _ _ _ rfl rfl rfl rfl rfl;simp only[rM',aa,simprocAttr,h5]
def eJ(pods:List dx):Nat->List fD->Option (Int×Int)
 |_,[]=>none
 |i,l::r=>if(gE l.id pods:Int)<l.min then some (12,i)else if(gE l.id pods:Int)>l.max then some (13,i)else eJ pods (i+1) r
theorem A2(s:bc)(t:State)(ht:t.pods.length<=2^30)(hl:s.aU.length<=2^30)(Lt:Std T 71 f71)(Q:Exit->St->Prop)(o:Option (Int×Int))
    (bS:o=none->∀fr hp nx,Q (.exit 0) ⟨fr,hp,nx⟩)
    (dI:∀c i,o=some (c,i)->∀fr hp nx id,look fr 4=.iface 1 (.ptr id 0 0)->ah hp id=.var [.pv (.int .i64 i),.pv (.int .i64 c)]->Q .ret ⟨fr,hp,nx⟩) :
    ∀(rest:List fD) (i:Nat),s.aU.drop i=rest->i<=s.aU.length->eJ t.pods i rest=o->∀(fr:List (Nat×AV)) (hp:Hl) (nx:Nat),2<=nx ->
     look fr 3=.ptr 1 0 0->ah hp 1=.var [.pv (.slice (t.pods.map aJ)),.pv (.int .i64 t.pre),.pv (.int .i64 t.eW)] ->
     look fr 9=.pv (.slice (s.aU.map bN))->look fr 10=.pv (.int .i64 s.aU.length)->look fr 11=.pv (.int .i64 i)->Wp T false (.loop Ds) ⟨fr,hp,nx⟩ Q:=by
 intro rest;induction rest with
 |nil =>
  intro i hd hi ho fr hp nx hn h3 b1 h9 h10 h11;have hlen:=drop_nil hd hi;rw[ay,aY Ds.eq_1];simp only[rM',aa,simprocAttr,h3,h9,h10,h11,hlen,aR];exact bS ho.symm _ _ _
 |cons l r ih =>
  intro i hd hi ho fr hp nx hn h3 b1 h9 h10 h11;obtain⟨aK,hlt,hw,di,cS,hb⟩:=drop_cons hd hl;have n1:¬nx=1:=by omega
  have k:=L5 Lt t l.id ht;rw[ay,aY Ds.eq_1];simp only[eJ]at ho;by_cases c1:(gE l.id t.pods:Int)<l.min
  ·rw[aW c1]at ho;simp only[rM',aa,simprocAttr,h3,b1,h9,h10,h11,hlt,aK,bN,n1,k.call,ar,c1];refine dI 12 i ho.symm _ _ _ (nx+1) ?_ ?_
   ·simp only[bG,Nat.reduceEqDiff,bA,aI]
   ·simp only[aF,bA]
  ·rw[aw c1]at ho;by_cases c2:(gE l.id t.pods:Int)>l.max
   ·rw[aW c2]at ho;have rH:l.max<(gE l.id t.pods:Int):=c2;simp only[rM',aa,simprocAttr,h3,b1,h9,h10,h11,hlt,aK,bN,n1,k.call,ar,c1,rH];refine dI 13 i ho.symm _ _ _ (nx+1) ?_ ?_
    ·simp only[bG,Nat.reduceEqDiff,bA,aI]
    ·simp only[aF,bA]
   ·rw[aw c2]at ho;have rH:¬l.max<(gE l.id t.pods:Int):=c2;simp only[rM',aa,simprocAttr,h3,b1,h9,h10,h11,hlt,aK,bN,n1,k.call,ar,c1,rH,hw];refine ih (i+1) di cS ho _ _ _ (by omega) ?_ ?_ ?_ ?_ ?_
    all_goals simp only[bG,aF,Nat.reduceEqDiff,bA,aI,h3,b1,h9,h10,n1]
def jR:Option (Int×Int)->PV
 |none=>.dJ
 |some (c,i)=>gk i c
theorem EC(Qg:Std T 70 f70)(Lt:Std T 71 f71)(s:bc)(t:State)(ht:t.pods.length<=2^30)(hl:s.aU.length<=2^30):ba T 70 [aD s,ar t] (jR (eJ t.pods 0 s.aU)):=by
 refine gives Qg rfl ?_;simp only[f70,rM',aa,simprocAttr,aD,ar];refine A2 s t ht hl Lt _ (eJ t.pods 0 s.aU) (fun ho fr hp nx=>?_) (fun c i ho fr hp nx id h4 hb=>?_) s.aU 0 rfl (aN _) rfl _ _ _ (ax _) rfl rfl rfl rfl rfl
 ·simp only[rM',aa,simprocAttr,ho,jR]
 ·simp only[rM',aa,simprocAttr,ho,jR,h4,hb,gk]
def jO:Option (Int×Int)->PV
 |none=>.tuple [.int .i64 0,.int .i64 (-1)]
 |some (c,i)=>.tuple [.int .i64 c,.int .i64 i]
theorem xR(s:bc)(t:State)(ht:t.pods.length<=2^30)(hl:s.aU.length<=2^30)(At:Std T 176 f176)(Q:Exit->St->Prop)(o:Option (Int×Int))
    (bS:o=none->∀fr hp nx,Q (.exit 0) ⟨fr,hp,nx⟩)
    (dI:∀c i,o=some (c,i)->∀fr hp nx,look fr 4=.pv (.int .i64 c)->look fr 5=.pv (.int .i64 i)->Q .ret ⟨fr,hp,nx⟩) :
    ∀(rest:List fD) (i:Nat),s.aU.drop i=rest->i<=s.aU.length->eJ t.pods i rest=o->∀(fr:List (Nat×AV)) (hp:Hl) (nx:Nat),
     look fr 2=.ptr 0 0 0->ah hp 0=.var [.pv (.slice (s.nodes.map bB)),.pv (.slice (s.aU.map bN)),.pv (.slice (s.pods.map aJ))] ->
     look fr 3=.ptr 1 0 0->ah hp 1=.var [.pv (.slice (t.pods.map aJ)),.pv (.int .i64 t.pre),.pv (.int .i64 t.eW)] ->
     look fr 6=.pv (.int .i64 i)->Wp T false (.loop yf) ⟨fr,hp,nx⟩ Q:=by
 intro rest;induction rest with
 |nil =>
  intro i hd hi ho fr hp nx h2 b0 h3 b1 h6;have hlen:=drop_nil hd hi;rw[ay,aY yf.eq_1];simp only[rM',aa,simprocAttr,h2,h3,b0,h6,hlen,aR];exact bS ho.symm _ _ _
 |cons l r ih =>
  intro i hd hi ho fr hp nx h2 b0 h3 b1 h6;obtain⟨aK,hlt,hw,di,cS,hb⟩:=drop_cons hd hl;have k:=It At t l.id ht;rw[ay,aY yf.eq_1];simp only[eJ]at ho;simp only[rM',aa,simprocAttr,h2,h3,b0,h6,hlt];refine(eg rfl).2 ?_;by_cases c1:(gE l.id t.pods:Int)<l.min
  ·rw[aW c1]at ho;simp only[rM',aa,simprocAttr,h2,h3,b0,b1,h6,aK,bN,k.cn,ar,c1];refine dI 12 i ho.symm _ _ _ ?_ ?_
   all_goals simp only[bG,Nat.reduceEqDiff,bA,aI]
  ·rw[aw c1]at ho;by_cases c2:(gE l.id t.pods:Int)>l.max
   ·rw[aW c2]at ho;have rH:l.max<(gE l.id t.pods:Int):=c2;simp only[rM',aa,simprocAttr,h2,h3,b0,b1,h6,aK,bN,k.cn,ar,c1,rH];refine dI 13 i ho.symm _ _ _ ?_ ?_
    all_goals simp only[bG,Nat.reduceEqDiff,bA,aI]
   ·rw[aw c2]at ho;have rH:¬l.max<(gE l.id t.pods:Int):=c2;simp only[rM',aa,simprocAttr,h2,h3,b0,b1,h6,aK,bN,k.cn,ar,c1,rH,hw];refine ih (i+1) di cS ho _ _ _ ?_ b0 ?_ b1 ?_
    all_goals simp only[bG,Nat.reduceEqDiff,bA,aI,h2,h3]
theorem BV(JZ:Std T 173 f173)(At:Std T 176 f176)(s:bc)(t:State)(ht:t.pods.length<=2^30)(hl:s.aU.length<=2^30):ba T 173 [aD s,ar t] (jO (eJ t.pods 0 s.aU)):=by
 refine gives JZ rfl ?_;simp only[f173,rM',aa,simprocAttr,aD,ar];refine xR s t ht hl At _ (eJ t.pods 0 s.aU) (fun ho fr hp nx=>?_) (fun c i ho fr hp nx h4 h5=>?_) s.aU 0 rfl (aN _) rfl _ _ _ rfl rfl rfl rfl rfl
 ·simp only[rM',aa,simprocAttr,ho,jO]
 ·simp only[rM',aa,simprocAttr,ho,jO,h4,h5]
def nP(x:Spec)(t:State):Bool:=decide (t.pre>x.pre)||decide (t.eW>x.eW)
theorem IE(Qh:Std T 72 f72)(x:Spec)(t:State):ba T 72 [bd x,ar t] (cond (nP x t) (cf 15) .dJ):=by
 refine gives Qh rfl ?_;unfold nP;by_cases c1:x.pre<t.pre <;>by_cases c2:x.eW<t.eW <;>
  simp only[f72,rM',aa,simprocAttr,bd,ar,c1,c2,cf,sX,M6,Bool.or_false,Bool.false_or]
theorem FW(K4:Std T 179 f179)(x:Spec)(t:State):ba T 179 [bd x,ar t] (.bool (nP x t)):=by
 refine gives K4 rfl ?_;unfold nP;by_cases c1:x.pre<t.pre <;>by_cases c2:x.eW<t.eW <;>
  simp only[f179,rM',aa,simprocAttr,bd,ar,c1,c2,sX,M6,Bool.or_false,Bool.false_or]
/-! ### The TG own Qn -/
theorem GQ(yQ:Std T 102 f102):ba T 102 [.dJ] (.int .i64 0):=by
 refine gives yQ rfl ?_;simp only[f102,rM',aa,simprocAttr,AO.Cv,M6]
def vW:Option (Int×Int)->Int
 |none=>0
 |some (c,_)=>c
def vX:Option (Int×Int)->Int
 |none=> -1
 |some (_,i)=>i
theorem E8(Hc:Std T 105 f105)(yQ:Std T 102 f102)(JV:xF T 103 LL)(o:Option (Int×Int))(h:∀c i,o=some (c,i)->0<=i) :
    ba T 105 [jR o,.int .i64 (vW o),.int .i64 (vX o)] (.bool true):=by
 refine gives Hc rfl ?_;cases o with
 |none=>simp only[f105,rM',aa,simprocAttr,jR,vW,vX,(GQ yQ).call]
 |some q =>
  obtain⟨c,i⟩:=q;have hi:¬i<0:=by have:=h c i rfl;omega
  have k:=Pv JV (e:=gk i c) (x:=i) (y:=c) (b:=true) (by simp[Sl,gk]);simp only[f105,rM',aa,simprocAttr,jR,vW,vX,gk,hi];simp only[gk]at k;simp only[rM',aa,simprocAttr,k.call]
end
end
section
/-! ### Plain:all counts together -/
section
variable{T:cL}
end
end
def Dq:bz :=
(.seq (.ops [
eu 23 .lss 22 21 []])
(.seq (.cond (.t 23)
.skip
(.exit 2))
(.seq (.block 3
(.seq (.ops [
ft 24 8 20 22 [],
bZ 25 8 24 [0],
aP 8 (.alloc [.pv (.int .i64 0),.pv (.int .i64 0),.pv (.int .i64 0),.pv (.int .u64 0),.pv (.int .u64 0),.pv (.int .u64 0),.pv (.int .u64 0),.pv (.int .i64 0)]) [],
dg 8 8 25 [2,1,0,1,2]])
(.seq (.ops [
bZ 26 3 2 [],
bZ 27 8 6 [],
bZ 28 8 8 [],
aP 29 (.call 69 [.t 26,.t 27,.t 28]) [0,1,2]])
(.cond (.t 29)
(.seq (.ops [
aq 30 5 [],
aP 31 (.build [.pv (.int .i64 0),.pv (.int .i64 0)] [(0,1,(.t 30)),(1,1,(.c (.pv (.int .i64 10))))]) [0],
df 32 31 [1],
aP 33 (.kO 1 (.t 32)) [2],
aq 4 33 [3,0,1,2,3]])
.ret)
.skip))))
(.ops [
cM 34 .add 22 1 [],
aq 22 34 [0]]))))
def Dr:bz :=
(.seq (.ops [
eu 13 .lss 12 11 []])
(.seq (.cond (.t 13)
.skip
(.exit 0))
(.seq (.block 1
(.seq (.ops [
aq 14 12 [],
ft 15 8 10 12 [],
bZ 16 8 15 [1],
aP 6 (.alloc [.pv (.int .i64 0),.pv (.int .i64 0),.pv (.int .i64 0),.pv (.int .u64 0),.pv (.int .u64 0),.pv (.int .u64 0),.pv (.int .u64 0),.pv (.int .i64 0)]) [],
aq 5 14 [0,0,1,2,3],
dg 8 6 16 [3,2,4,0,1,2,3,4]])
(.seq (.ops [
bP 17 0 3 [],
bQ 18 1 17 [0],
aq 19 5 [],
aP 20 (.slice 8 (.t 18) none (some (.t 19))) [1,2],
fW 21 20 [3],
cT 22 0 []])
(.block 2
(.loop Dq)))))
(.ops [
cM 35 .add 12 1 [],
aq 12 35 [0]]))))
def f68:bg:=⟨36,[.t 4],
(.seq (.ops [
df 2 0 [],
df 3 1 [],
jm 4 []])
(.seq (.seq (.ops [
bP 9 0 3 [],
bQ 10 1 9 [0],
fW 11 10 [1],
cT 12 0 []])
(.block 0
(.loop Dr)))
(.seq (.ops [
jm 4 []])
.ret)))⟩
def f69:bg:=⟨40,[.t 6],
(.seq (.ops [
df 3 0 [],
df 4 1 [],
df 5 2 [],
fR 6 false []])
(.seq (.ops [
bZ 10 3 3 [],
bP 11 1 4 [],
bQ 12 1 11 [1],
aP 13 (.call 81 [.t 10,.t 12]) [0,2],
aq 9 13 [3],
fc 14 9 0 [4],
fc 15 9 1 [4],
aP 7 (.alloc [.pv (.int .i64 0),.pv (.bool false),.pv (.int .i64 0),.pv (.int .i64 0),.pv (.int .i64 0)]) [],
dg 5 7 14 [7,5,3,0,1,2,3,4,5,7],
aq 8 15 [6,8,0,1,2,3,4,5,6,7,8]])
(.seq (.ops [
bP 16 1 4 [],
bQ 17 1 16 [0],
bP 18 1 5 [],
bQ 19 1 18 [2],
eu 20 .eql 17 19 [1,3],
aq 21 20 [4],
dX 22 21 true 7 4 [5],
dP 23 21 true 1 22 [6,5],
dX 24 21 true 7 5 [5],
dP 25 21 true 1 24 [8,5],
dU 26 21 true (.bin .eql none (.t 23) (.t 25)) [7,9,5],
ib 27 21 26 [5,10],
aq 28 27 [11,5],
dX 29 28 true 7 4 [12],
dP 30 28 true 1 29 [13,12],
fV 31 28 true .neq 30 0 [14,12],
ib 32 28 31 [12,15],
aq 33 32 [16,12],
eP 34 33 true 8 [17],
ib 35 33 34 [17,18],
aq 36 35 [19,17],
dX 37 36 true 1 7 [20],
dP 38 36 true 1 37 [21,20],
ib 39 36 38 [20,22],
aq 6 39 [23,20,0,1,2,3,4,5,6,7,8,9,10,11,12,13,14,15,16,17,18,19,20,21,22,23]])
.ret)))⟩
def Dy:bz :=
(.seq (.ops [
eu 12 .lss 11 10 []])
(.seq (.cond (.t 12)
.skip
(.exit 0))
(.seq (.block 1
(.seq (.ops [
ft 13 5 9 11 [],
bZ 14 5 13 [0],
aP 7 (.alloc [.pv (.int .i64 0),.pv (.bool false),.pv (.int .i64 0),.pv (.int .i64 0),.pv (.int .i64 0)]) [],
dg 5 7 14 [2,1,0,1,2]])
(.seq (.ops [
bP 15 0 7 [],
bQ 16 1 15 [0],
aq 17 1 [],
eu 18 .eql 16 17 [1,2]])
(.cond (.t 18)
(.seq (.ops [
bZ 19 5 7 [],
dg 5 4 19 [0,0],
fR 5 true [1,0,1]])
.ret)
.skip))))
(.ops [
cM 20 .add 11 1 [],
aq 11 20 [0]]))))
def f81:bg:=⟨22,[.cell 4 true 5,.t 5],
(.seq (.ops [
df 2 0 [],
aP 4 (.alloc [.pv (.int .i64 0),.pv (.bool false),.pv (.int .i64 0),.pv (.int .i64 0),.pv (.int .i64 0)]) [],
fR 5 false []])
(.seq (.seq (.ops [
bP 8 1 2 [],
bQ 9 1 8 [0],
fW 10 9 [1],
cT 11 0 []])
(.block 0
(.loop Dy)))
(.seq (.ops [
aP 21 (.build [.pv (.int .i64 0),.pv (.bool false),.pv (.int .i64 0),.pv (.int .i64 0),.pv (.int .i64 0)] []) [],
dg 5 4 21 [0,0],
fR 5 false [1,0,1]])
.ret)))⟩
def rO:bz :=
(.seq (.seq (.ops [
aq 10 7 [],
cM 11 .lss 10 4 [0]])
(.cond (.t 11)
.skip
(.exit 0)))
(.seq (.block 1
(.seq (.draw [
aq 15 7 [],
aP 16 (.dB 4 1 (.t 2) (.t 15)) [0],
bQ 17 1 16 [1],
aq 18 7 [],
aP 19 (.dB 4 1 (.t 3) (.t 18)) [3],
bQ 20 1 19 [4],
aP 21 (.call 145 [.t 17,.t 20]) [2,5],
aq 14 21 [6],
fc 22 14 0 [7],
fc 23 14 1 [7],
aq 8 22 [8,6,0,1,2,3,4,5,6,7,8],
aq 9 23 [9,10,0,1,2,3,4,5,6,7,8,9,10]])
(.seq (.seq (.ops [
aq 24 9 [],
aP 25 (.not (.t 24)) [0]])
(.cond (.t 25)
(.seq (.ops [
aP 26 (.build [.pv (.int .u64 0),.pv (.int .u64 0),.pv (.int .u64 0),.pv (.int .u64 0)] []) [],
dg 4 4 26 [0,0],
fR 5 false [1,0,1]])
.ret)
.skip))
(.ops [
aq 27 7 [],
aq 28 8 [],
aP 29 (.dB 4 1 (.t 6) (.t 27)) [0,0,1],
dg 1 29 28 [2,1,0,1]]))))
(.ops [
aq 12 7 [],
cM 13 .add 12 1 [0],
aq 7 13 [1,0,1]])))
def f140:bg:=⟨31,[.cell 4 true 4,.t 5],
(.seq (.ops [
df 2 0 [],
df 3 1 [],
aP 4 (.alloc [.pv (.int .u64 0),.pv (.int .u64 0),.pv (.int .u64 0),.pv (.int .u64 0)]) [],
fR 5 false []])
(.seq (.ops [
aP 6 (.alloc [.pv (.int .u64 0),.pv (.int .u64 0),.pv (.int .u64 0),.pv (.int .u64 0)]) []])
(.seq (.seq (.ops [
cT 7 0 []])
(.block 0
(.loop rO)))
(.seq (.ops [
bZ 30 4 6 [],
dg 4 4 30 [0,0],
fR 5 true [1,0,1]])
.ret))))⟩
def f141:bg:=⟨31,[.t 4],
(.seq (.ops [
df 2 0 [],
df 3 1 [],
fR 4 false []])
(.seq (.ops [
aP 5 (.dB 4 1 (.t 2) (.c (.pv (.int .i64 0)))) [],
bQ 6 1 5 [0],
aP 7 (.dB 4 1 (.t 3) (.c (.pv (.int .i64 0)))) [],
bQ 8 1 7 [2],
eu 9 .leq 6 8 [1,3],
aq 10 9 [4],
dU 11 10 true (.dB 4 1 (.t 2) (.c (.pv (.int .i64 1)))) [5],
dP 12 10 true 1 11 [6,5],
dU 13 10 true (.dB 4 1 (.t 3) (.c (.pv (.int .i64 1)))) [5],
dP 14 10 true 1 13 [8,5],
dU 15 10 true (.bin .leq none (.t 12) (.t 14)) [7,9,5],
ib 16 10 15 [5,10],
aq 17 16 [11,5],
dU 18 17 true (.dB 4 1 (.t 2) (.c (.pv (.int .i64 2)))) [12],
dP 19 17 true 1 18 [13,12],
dU 20 17 true (.dB 4 1 (.t 3) (.c (.pv (.int .i64 2)))) [12],
dP 21 17 true 1 20 [15,12],
dU 22 17 true (.bin .leq none (.t 19) (.t 21)) [14,16,12],
ib 23 17 22 [12,17],
aq 24 23 [18,12],
dU 25 24 true (.dB 4 1 (.t 2) (.c (.pv (.int .i64 3)))) [19],
dP 26 24 true 1 25 [20,19],
dU 27 24 true (.dB 4 1 (.t 3) (.c (.pv (.int .i64 3)))) [19],
dP 28 24 true 1 27 [22,19],
dU 29 24 true (.bin .leq none (.t 26) (.t 28)) [21,23,19],
ib 30 24 29 [19,24],
aq 4 30 [25,19,0,1,2,3,4,5,6,7,8,9,10,11,12,13,14,15,16,17,18,19,20,21,22,23,24,25]])
.ret))⟩
def f142:bg:=⟨34,[.cell 4 true 4,.t 5],
(.seq (.ops [
df 2 0 [],
df 3 1 [],
aP 4 (.alloc [.pv (.int .u64 0),.pv (.int .u64 0),.pv (.int .u64 0),.pv (.int .u64 0)]) [],
fR 5 false []])
(.seq (.ops [
bZ 7 4 3 [],
bZ 8 4 2 [],
aP 9 (.call 141 [.t 7,.t 8]) [0,1],
aq 6 9 [2,2,0,1,2]])
(.seq (.seq (.ops [
aq 10 6 [],
aP 11 (.not (.t 10)) [0]])
(.cond (.t 11)
(.seq (.ops [
aP 12 (.build [.pv (.int .u64 0),.pv (.int .u64 0),.pv (.int .u64 0),.pv (.int .u64 0)] []) [],
dg 4 4 12 [0,0],
fR 5 false [1,0,1]])
.ret)
.skip))
(.seq (.ops [
aP 13 (.dB 4 1 (.t 2) (.c (.pv (.int .i64 0)))) [],
bQ 14 1 13 [0],
aP 15 (.dB 4 1 (.t 3) (.c (.pv (.int .i64 0)))) [],
bQ 16 1 15 [2],
eu 17 .sub 14 16 [1,3],
aP 18 (.dB 4 1 (.t 2) (.c (.pv (.int .i64 1)))) [],
bQ 19 1 18 [5],
aP 20 (.dB 4 1 (.t 3) (.c (.pv (.int .i64 1)))) [],
bQ 21 1 20 [7],
eu 22 .sub 19 21 [6,8],
aP 23 (.dB 4 1 (.t 2) (.c (.pv (.int .i64 2)))) [],
bQ 24 1 23 [10],
aP 25 (.dB 4 1 (.t 3) (.c (.pv (.int .i64 2)))) [],
bQ 26 1 25 [12],
eu 27 .sub 24 26 [11,13],
aP 28 (.dB 4 1 (.t 2) (.c (.pv (.int .i64 3)))) [],
bQ 29 1 28 [15],
aP 30 (.dB 4 1 (.t 3) (.c (.pv (.int .i64 3)))) [],
bQ 31 1 30 [17],
eu 32 .sub 29 31 [16,18],
aP 33 (.build [.pv (.int .u64 0),.pv (.int .u64 0),.pv (.int .u64 0),.pv (.int .u64 0)] [(0,1,(.t 17)),(1,1,(.t 22)),(2,1,(.t 27)),(3,1,(.t 32))]) [4,9,14,19],
dg 4 4 33 [20,0,1,2,3,4,5,6,7,8,9,10,11,12,13,14,15,16,17,18,19,20],
fR 5 true [21,0,1,2,3,4,5,6,7,8,9,10,11,12,13,14,15,16,17,18,19,20,21]])
.ret))))⟩
def uf:bz :=
(.seq (.seq (.ops [
aq 7 6 [],
aq 8 0 [],
fW 9 8 [1],
eu 10 .lss 7 9 [0,2],
aq 11 10 [3],
eP 12 11 true 5 [4],
ib 13 11 12 [4,5]])
(.cond (.t 13)
.skip
(.exit 0)))
(.seq (.block 1
(.draw [
bZ 17 4 4 [],
aq 18 0 [],
aq 19 6 [],
ft 20 4 18 19 [1,2],
bZ 21 4 20 [3],
aP 22 (.call 140 [.t 17,.t 21]) [0,4],
aq 16 22 [5],
fc 23 16 0 [6],
fc 24 16 1 [6],
dg 4 4 23 [7,5,0,1,2,3,4,5,6,7],
aq 5 24 [8,9,0,1,2,3,4,5,6,7,8,9]]))
(.ops [
aq 14 6 [],
cM 15 .add 14 1 [0],
aq 6 15 [1,0,1]])))
def f143:bg:=⟨27,[.cell 2 true 4,.t 3],
(.seq (.ops [
aP 2 (.alloc [.pv (.int .u64 0),.pv (.int .u64 0),.pv (.int .u64 0),.pv (.int .u64 0)]) [],
fR 3 false []])
(.seq (.ops [
aP 4 (.alloc [.pv (.int .u64 0),.pv (.int .u64 0),.pv (.int .u64 0),.pv (.int .u64 0)]) []])
(.seq (.ops [
fR 5 true []])
(.seq (.seq (.ops [
cT 6 0 []])
(.block 0
(.loop uf)))
(.seq (.ops [
bZ 25 4 4 [],
aq 26 5 [],
dg 4 2 25 [0,0],
aq 3 26 [1,2,0,1,2]])
.ret)))))⟩
def f144:bg:=⟨10,[.t 4],
(.seq (.ops [
aP 4 (.mv (.c (.pv (.int .u64 0)))) []])
(.seq (.seq (.ops [
aq 5 1 []])
(.cond (.t 5)
(.seq (.ops [
aq 6 0 [],
aP 7 (.bin .quo none (.t 6) (.c (.pv (.int .u64 4294967296)))) [0],
aq 4 7 [1,0,1]])
.ret)
.skip))
(.seq (.ops [
aq 8 0 [],
aP 9 (.bin .rem none (.t 8) (.c (.pv (.int .u64 4294967296)))) [0],
aq 4 9 [1,0,1]])
.ret)))⟩
def f145:bg:=⟨28,[.t 4,.t 5],
(.seq (.ops [
aP 4 (.mv (.c (.pv (.int .u64 0)))) [],
fR 5 false [0]])
(.seq (.ops [
aq 8 0 [],
aP 9 (.call 144 [.t 8,.c (.pv (.bool false))]) [0],
aq 10 1 [],
aP 11 (.call 144 [.t 10,.c (.pv (.bool false))]) [2,1],
eu 12 .add 9 11 [1,3],
aq 6 12 [4,3,0,1,2,3,4]])
(.seq (.ops [
aq 13 0 [],
aP 14 (.call 144 [.t 13,.c (.pv (.bool true))]) [0],
aq 15 1 [],
aP 16 (.call 144 [.t 15,.c (.pv (.bool true))]) [2,1],
eu 17 .add 14 16 [1,3],
aq 18 6 [],
aP 19 (.bin .quo none (.t 18) (.c (.pv (.int .u64 4294967296)))) [5],
eu 20 .add 17 19 [4,6],
aq 7 20 [7,3,0,1,2,3,4,5,6,7]])
(.seq (.seq (.ops [
aq 21 7 [],
aP 22 (.bin .geq none (.t 21) (.c (.pv (.int .u64 4294967296)))) [0]])
(.cond (.t 22)
(.seq (.ops [
aP 4 (.mv (.c (.pv (.int .u64 0)))) [],
fR 5 false [0,0]])
.ret)
.skip))
(.seq (.ops [
aq 23 7 [],
aP 24 (.bin .mul none (.t 23) (.c (.pv (.int .u64 4294967296)))) [0],
aq 25 6 [],
aP 26 (.bin .rem none (.t 25) (.c (.pv (.int .u64 4294967296)))) [2],
eu 27 .add 24 26 [1,3],
aq 4 27 [4,0,1,2,3,4],
fR 5 true [5,0,1,2,3,4,5]])
.ret)))))⟩
def y5:bz :=
(.seq (.seq (.ops [
aq 6 5 [],
bP 7 0 2 [],
bQ 8 1 7 [1],
fW 9 8 [2],
eu 10 .lss 6 9 [0,3]])
(.cond (.t 10)
.skip
(.exit 0)))
(.seq (.block 1
(.seq (.ops [
bP 13 0 2 [],
bQ 14 1 13 [0],
aq 15 5 [],
ft 16 10 14 15 [1,2],
bP 17 0 16 [3],
bQ 18 1 17 [4],
aq 19 1 [],
eu 20 .eql 18 19 [5,6]])
(.cond (.t 20)
(.seq (.ops [
aq 21 5 [],
aq 4 21 [0,0]])
.ret)
.skip)))
(.ops [
aq 11 5 [],
cM 12 .add 11 1 [0],
aq 5 12 [1,0,1]])))
def f155:bg:=⟨22,[.t 4],
(.seq (.ops [
df 2 0 [],
cT 4 0 []])
(.seq (.seq (.ops [
cT 5 0 []])
(.block 0
(.loop y5)))
(.seq (.ops [
cT 4 (-1) []])
.ret)))⟩
def yb:bz :=
(.seq (.seq (.ops [
aq 9 6 [],
bP 10 0 2 [],
bQ 11 1 10 [1],
fW 12 11 [2],
eu 13 .lss 9 12 [0,3]])
(.cond (.t 13)
.skip
(.exit 0)))
(.seq (.block 1
(.seq (.draw [
bZ 17 3 2 [],
bZ 18 3 3 [],
bP 19 0 2 [],
bQ 20 1 19 [2],
aq 21 6 [],
ft 22 10 20 21 [3,4],
bP 23 0 22 [5],
bQ 24 1 23 [6],
aP 25 (.call 170 [.t 17,.t 18,.t 24]) [0,1,7],
aq 16 25 [8],
fc 26 16 0 [9],
fc 27 16 1 [9],
aP 7 (.alloc [.pv (.int .u64 0),.pv (.int .u64 0),.pv (.int .u64 0),.pv (.int .u64 0)]) [],
dg 4 7 26 [12,10,8,0,1,2,3,4,5,6,7,8,9,10,12],
aq 8 27 [11,13,0,1,2,3,4,5,6,7,8,9,10,11,12,13]])
(.seq (.ops [
aq 28 8 [],
cM 29 .neq 28 0 [0]])
(.cond (.t 29)
(.seq (.ops [
aq 30 8 [],
aq 31 6 [],
aq 4 30 [0,0],
aq 5 31 [1,2,0,1,2]])
.ret)
.skip))))
(.ops [
aq 14 6 [],
cM 15 .add 14 1 [0],
aq 6 15 [1,0,1]])))
def f169:bg:=⟨32,[.t 4,.t 5],
(.seq (.ops [
df 2 0 [],
df 3 1 [],
cT 4 0 [],
cT 5 0 [2]])
(.seq (.seq (.ops [
cT 6 0 []])
(.block 0
(.loop yb)))
(.seq (.ops [
cT 4 0 [],
cT 5 (-1) [0,0]])
.ret)))⟩
def f170:bg:=⟨59,[.cell 6 true 4,.t 7],
(.seq (.ops [
df 3 0 [],
df 4 1 [],
aP 6 (.alloc [.pv (.int .u64 0),.pv (.int .u64 0),.pv (.int .u64 0),.pv (.int .u64 0)]) [],
cT 7 0 []])
(.seq (.ops [
bZ 15 3 3 [],
aq 16 2 [],
aP 17 (.call 155 [.t 15,.t 16]) [0,1],
aq 8 17 [2,2,0,1,2]])
(.seq (.seq (.ops [
aq 18 8 [],
cM 19 .lss 18 0 [0]])
(.cond (.t 19)
(.seq (.ops [
aP 20 (.build [.pv (.int .u64 0),.pv (.int .u64 0),.pv (.int .u64 0),.pv (.int .u64 0)] []) [],
dg 4 6 20 [0,0],
cT 7 4 [1,0,1]])
.ret)
.skip))
(.seq (.ops [
bZ 22 3 4 [],
aq 23 2 [],
aP 24 (.call 171 [.t 22,.t 23]) [0,1],
aq 21 24 [2],
fc 25 21 0 [3],
fc 26 21 1 [3],
aP 9 (.alloc [.pv (.int .u64 0),.pv (.int .u64 0),.pv (.int .u64 0),.pv (.int .u64 0)]) [],
dg 4 9 25 [6,4,2,0,1,2,3,4,6],
aq 10 26 [5,7,0,1,2,3,4,5,6,7]])
(.seq (.seq (.ops [
aq 27 10 [],
aP 28 (.not (.t 27)) [0]])
(.cond (.t 28)
(.seq (.ops [
aP 29 (.build [.pv (.int .u64 0),.pv (.int .u64 0),.pv (.int .u64 0),.pv (.int .u64 0)] []) [],
dg 4 6 29 [0,0],
cT 7 8 [1,0,1]])
.ret)
.skip))
(.seq (.draw [
bP 31 0 3 [],
bQ 32 1 31 [0],
aq 33 8 [],
ft 34 10 32 33 [1,2],
bP 35 2 34 [3],
bZ 36 4 35 [4],
bP 37 0 3 [],
bQ 38 1 37 [6],
aq 39 8 [],
ft 40 10 38 39 [7,8],
bP 41 6 40 [9],
bZ 42 4 41 [10],
aP 43 (.call 142 [.t 36,.t 42]) [5,11],
aq 30 43 [12],
fc 44 30 0 [13],
fc 45 30 1 [13],
aP 11 (.alloc [.pv (.int .u64 0),.pv (.int .u64 0),.pv (.int .u64 0),.pv (.int .u64 0)]) [],
dg 4 11 44 [16,14,12,0,1,2,3,4,5,6,7,8,9,10,11,12,13,14,16],
aq 12 45 [15,17,0,1,2,3,4,5,6,7,8,9,10,11,12,13,14,15,16,17]])
(.seq (.seq (.ops [
aq 46 12 [],
aP 47 (.not (.t 46)) [0]])
(.cond (.t 47)
(.seq (.ops [
aP 48 (.build [.pv (.int .u64 0),.pv (.int .u64 0),.pv (.int .u64 0),.pv (.int .u64 0)] []) [],
dg 4 6 48 [0,0],
cT 7 9 [1,0,1]])
.ret)
.skip))
(.seq (.ops [
bZ 50 4 11 [],
bZ 51 4 9 [],
aP 52 (.call 142 [.t 50,.t 51]) [0,1],
aq 49 52 [2],
fc 53 49 0 [3],
fc 54 49 1 [3],
aP 13 (.alloc [.pv (.int .u64 0),.pv (.int .u64 0),.pv (.int .u64 0),.pv (.int .u64 0)]) [],
dg 4 13 53 [6,4,2,0,1,2,3,4,6],
aq 14 54 [5,7,0,1,2,3,4,5,6,7]])
(.seq (.seq (.ops [
aq 55 14 [],
aP 56 (.not (.t 55)) [0]])
(.cond (.t 56)
(.seq (.ops [
aP 57 (.build [.pv (.int .u64 0),.pv (.int .u64 0),.pv (.int .u64 0),.pv (.int .u64 0)] []) [],
dg 4 6 57 [0,0],
cT 7 9 [1,0,1]])
.ret)
.skip))
(.seq (.ops [
bZ 58 4 13 [],
dg 4 6 58 [0,0],
cT 7 0 [1,0,1]])
.ret))))))))))⟩
def yc:bz :=
(.seq (.seq (.ops [
aq 10 7 [],
bP 11 0 2 [],
bQ 12 1 11 [1],
fW 13 12 [2],
eu 14 .lss 10 13 [0,3]])
(.cond (.t 14)
.skip
(.exit 0)))
(.seq (.block 1
(.seq (.ops [
bP 17 0 2 [],
bQ 18 1 17 [0],
aq 19 7 [],
ft 20 8 18 19 [1,2],
bP 21 7 20 [3],
bQ 22 1 21 [4],
aq 23 1 [],
eu 24 .eql 22 23 [5,6]])
(.cond (.t 24)
(.ops [
aq 25 6 [],
bP 26 0 2 [],
bQ 27 1 26 [1],
aq 28 7 [],
ft 29 8 27 28 [2,3],
bP 30 3 29 [4],
bZ 31 4 30 [5],
aP 32 (.cv 4 1 [.pv (.int .u64 0),.pv (.int .u64 0),.pv (.int .u64 0),.pv (.int .u64 0)] [(0,4,(.t 31))]) [6],
aP 33 (.append 4 32 (.t 25) (.t 32)) [0,7],
aq 6 33 [8,8,0,1,2,3,4,5,6,7,8]])
.skip)))
(.ops [
aq 15 7 [],
cM 16 .add 15 1 [0],
aq 7 16 [1,0,1]])))
def f171:bg:=⟨43,[.cell 4 true 4,.t 5],
(.seq (.ops [
df 2 0 [],
aP 4 (.alloc [.pv (.int .u64 0),.pv (.int .u64 0),.pv (.int .u64 0),.pv (.int .u64 0)]) [],
fR 5 false []])
(.seq (.ops [
aP 6 (.mv (.c .bu)) []])
(.seq (.seq (.ops [
cT 7 0 []])
(.block 0
(.loop yc)))
(.seq (.ops [
aq 35 6 [],
aP 36 (.call 143 [.t 35]) [0],
aq 34 36 [1],
fc 37 34 0 [2],
fc 38 34 1 [2],
aP 8 (.alloc [.pv (.int .u64 0),.pv (.int .u64 0),.pv (.int .u64 0),.pv (.int .u64 0)]) [],
dg 4 8 37 [5,3,1,0,1,2,3,5],
aq 9 38 [4,6,0,1,2,3,4,5,6]])
(.seq (.seq (.ops [
aq 39 9 [],
aP 40 (.not (.t 39)) [0]])
(.cond (.t 40)
(.seq (.ops [
aP 41 (.build [.pv (.int .u64 0),.pv (.int .u64 0),.pv (.int .u64 0),.pv (.int .u64 0)] []) [],
dg 4 4 41 [0,0],
fR 5 false [1,0,1]])
.ret)
.skip))
(.seq (.ops [
bZ 42 4 8 [],
dg 4 4 42 [0,0],
fR 5 true [1,0,1]])
.ret))))))⟩
def yE:bz :=
(.seq (.ops [
eu 14 .lss 13 12 []])
(.seq (.cond (.t 14)
.skip
(.exit 0))
(.seq (.block 1
(.seq (.ops [
aq 15 13 [],
ft 16 10 11 13 [],
bZ 17 10 16 [1],
aP 6 (.alloc [.pv (.int .i64 0),.pv (.int .i64 0),.pv (.int .u64 0),.pv (.int .u64 0),.pv (.int .u64 0),.pv (.int .u64 0),.pv (.int .u64 0),.pv (.int .u64 0),.pv (.int .u64 0),.pv (.int .u64 0)]) [],
aq 5 15 [0,0,1,2,3],
dg 10 6 17 [3,2,4,0,1,2,3,4]])
(.seq (.ops [
bZ 19 3 2 [],
bZ 20 3 3 [],
bP 21 0 6 [],
bQ 22 1 21 [2],
aP 23 (.call 220 [.t 19,.t 20,.t 22]) [0,1,3],
aq 18 23 [4],
fc 24 18 0 [5],
fc 25 18 1 [5],
aP 7 (.alloc [.pv (.int .u64 0),.pv (.int .u64 0),.pv (.int .u64 0),.pv (.int .u64 0)]) [],
dg 4 7 24 [8,6,4,0,1,2,3,4,5,6,8],
aq 8 25 [7,9,0,1,2,3,4,5,6,7,8,9]])
(.seq (.ops [
aP 9 (.alloc [.pv (.int .i64 0)]) []])
(.seq (.ops [
aq 26 8 [],
aP 27 (.kO 3 (.t 9)) [],
aP 28 (.call 266 [.t 26,.t 27]) [0,1]])
(.cond (.t 28)
(.seq (.ops [
aq 29 5 [],
bQ 30 1 9 [],
aP 31 (.build [.pv (.int .i64 0),.pv (.int .i64 0)] [(0,1,(.t 29)),(1,1,(.t 30))]) [0,1],
df 32 31 [2],
aP 33 (.kO 1 (.t 32)) [3],
aq 4 33 [4,0,1,2,3,4]])
.ret)
.skip))))))
(.ops [
cM 34 .add 13 1 [],
aq 13 34 [0]]))))
def f219:bg:=⟨35,[.t 4],
(.seq (.ops [
df 2 0 [],
df 3 1 [],
jm 4 []])
(.seq (.seq (.ops [
bP 10 0 2 [],
bQ 11 1 10 [0],
fW 12 11 [1],
cT 13 0 []])
(.block 0
(.loop yE)))
(.seq (.ops [
jm 4 []])
.ret)))⟩
def f220:bg:=⟨54,[.cell 6 true 4,.t 7],
(.seq (.ops [
df 3 0 [],
df 4 1 [],
aP 6 (.alloc [.pv (.int .u64 0),.pv (.int .u64 0),.pv (.int .u64 0),.pv (.int .u64 0)]) [],
jm 7 []])
(.seq (.ops [
bZ 14 3 3 [],
aq 15 2 [],
aP 16 (.call 82 [.t 14,.t 15]) [0,1],
aq 13 16 [2],
fc 17 13 0 [3],
fc 18 13 1 [3],
aP 8 (.alloc [.pv (.int .i64 0),.pv (.int .i64 0),.pv (.int .u64 0),.pv (.int .u64 0),.pv (.int .u64 0),.pv (.int .u64 0),.pv (.int .u64 0),.pv (.int .u64 0),.pv (.int .u64 0),.pv (.int .u64 0)]) [],
dg 10 8 17 [6,4,2,0,1,2,3,4,6],
aq 9 18 [5,7,0,1,2,3,4,5,6,7]])
(.seq (.seq (.ops [
aq 19 9 [],
aP 20 (.not (.t 19)) [0]])
(.cond (.t 20)
(.seq (.ops [
aP 21 (.build [.pv (.int .u64 0),.pv (.int .u64 0),.pv (.int .u64 0),.pv (.int .u64 0)] []) [],
aP 22 (.kO 0 (.c (.pv (.int .i64 4)))) [],
dg 4 6 21 [0,0],
aq 7 22 [1,2,0,1,2]])
.ret)
.skip))
(.seq (.ops [
bZ 24 3 4 [],
aq 25 2 [],
aP 26 (.call 221 [.t 24,.t 25]) [0,1],
aq 23 26 [2],
fc 27 23 0 [3],
fc 28 23 1 [3],
aP 10 (.alloc [.pv (.int .u64 0),.pv (.int .u64 0),.pv (.int .u64 0),.pv (.int .u64 0)]) [],
dg 4 10 27 [6,4,2,0,1,2,3,4,6],
aq 11 28 [5,7,0,1,2,3,4,5,6,7]])
(.seq (.seq (.ops [
aq 29 11 [],
aP 30 (.bin .neq (some (.iface true)) (.t 29) (.c (.pv .dJ))) [0]])
(.cond (.t 30)
(.seq (.ops [
aP 31 (.build [.pv (.int .u64 0),.pv (.int .u64 0),.pv (.int .u64 0),.pv (.int .u64 0)] []) [],
aq 32 11 [],
dg 4 6 31 [0,0],
aq 7 32 [1,2,0,1,2]])
.ret)
.skip))
(.seq (.ops [
bP 34 2 8 [],
bZ 35 4 34 [0],
bP 36 6 8 [],
bZ 37 4 36 [2],
aP 38 (.call 258 [.t 35,.t 37]) [1,3],
aq 33 38 [4],
fc 39 33 0 [5],
fc 40 33 1 [5],
aP 12 (.alloc [.pv (.int .u64 0),.pv (.int .u64 0),.pv (.int .u64 0),.pv (.int .u64 0)]) [],
dg 4 12 39 [8,6,4,0,1,2,3,4,5,6,8],
aq 11 40 [7,9,0,1,2,3,4,5,6,7,8,9]])
(.seq (.seq (.ops [
aq 41 11 [],
aP 42 (.bin .eql (some (.iface true)) (.t 41) (.c (.pv .dJ))) [0]])
(.cond (.t 42)
(.ops [
bZ 44 4 12 [],
bZ 45 4 10 [],
aP 46 (.call 258 [.t 44,.t 45]) [0,1],
aq 43 46 [2],
fc 47 43 0 [3],
fc 48 43 1 [3],
dg 4 12 47 [4,2,0,1,2,3,4],
aq 11 48 [5,6,0,1,2,3,4,5,6]])
.skip))
(.seq (.seq (.ops [
aq 49 11 [],
aP 50 (.bin .neq (some (.iface true)) (.t 49) (.c (.pv .dJ))) [0]])
(.cond (.t 50)
(.seq (.ops [
aP 51 (.build [.pv (.int .u64 0),.pv (.int .u64 0),.pv (.int .u64 0),.pv (.int .u64 0)] []) [],
aP 52 (.kO 0 (.c (.pv (.int .i64 9)))) [],
dg 4 6 51 [0,0],
aq 7 52 [1,2,0,1,2]])
.ret)
.skip))
(.seq (.ops [
bZ 53 4 12 [],
dg 4 6 53 [0,0],
jm 7 [1,0,1]])
.ret)))))))))⟩
def yF:bz :=
(.seq (.ops [
eu 13 .lss 12 11 []])
(.seq (.cond (.t 13)
.skip
(.exit 0))
(.seq (.block 1
(.seq (.ops [
ft 14 8 10 12 [],
bZ 15 8 14 [0],
aP 8 (.alloc [.pv (.int .i64 0),.pv (.int .i64 0),.pv (.int .i64 0),.pv (.int .u64 0),.pv (.int .u64 0),.pv (.int .u64 0),.pv (.int .u64 0),.pv (.int .i64 0)]) [],
dg 8 8 15 [2,1,0,1,2]])
(.seq (.ops [
bP 16 7 8 [],
bQ 17 1 16 [0],
aq 18 1 [],
eu 19 .eql 17 18 [1,2]])
(.cond (.t 19)
(.ops [
aq 20 6 [],
bP 21 3 8 [],
bZ 22 4 21 [1],
aP 23 (.cv 4 1 [.pv (.int .u64 0),.pv (.int .u64 0),.pv (.int .u64 0),.pv (.int .u64 0)] [(0,4,(.t 22))]) [2],
aP 24 (.append 4 32 (.t 20) (.t 23)) [0,3],
aq 6 24 [4,4,0,1,2,3,4]])
.skip))))
(.ops [
cM 25 .add 12 1 [],
aq 12 25 [0]]))))
def f221:bg:=⟨30,[.cell 4 true 4,.t 5],
(.seq (.ops [
df 2 0 [],
aP 4 (.alloc [.pv (.int .u64 0),.pv (.int .u64 0),.pv (.int .u64 0),.pv (.int .u64 0)]) [],
jm 5 []])
(.seq (.ops [
aP 6 (.mv (.c .bu)) []])
(.seq (.seq (.ops [
bP 9 0 2 [],
bQ 10 1 9 [0],
fW 11 10 [1],
cT 12 0 []])
(.block 0
(.loop yF)))
(.seq (.ops [
aq 26 6 [],
aP 27 (.call 260 [.t 26]) [0],
fc 28 27 0 [1],
fc 29 27 1 [1],
dg 4 4 28 [2,1,0,1,2,3],
aq 5 29 [3,4,0,1,2,3,4]])
.ret))))⟩
def f255:bg:=⟨11,[.cell 4 true 4,.t 5],
(.seq (.ops [
df 2 0 [],
df 3 1 [],
aP 4 (.alloc [.pv (.int .u64 0),.pv (.int .u64 0),.pv (.int .u64 0),.pv (.int .u64 0)]) [],
jm 5 []])
(.seq (.ops [
bZ 6 4 2 [],
bZ 7 4 3 [],
aP 8 (.call 261 [.t 6,.t 7,.f 256]) [0,1],
fc 9 8 0 [2],
fc 10 8 1 [2],
dg 4 4 9 [3,2,0,1,2,3,4],
aq 5 10 [4,5,0,1,2,3,4,5]])
.ret))⟩
def f258:bg:=⟨11,[.cell 4 true 4,.t 5],
(.seq (.ops [
df 2 0 [],
df 3 1 [],
aP 4 (.alloc [.pv (.int .u64 0),.pv (.int .u64 0),.pv (.int .u64 0),.pv (.int .u64 0)]) [],
jm 5 []])
(.seq (.ops [
bZ 6 4 2 [],
bZ 7 4 3 [],
aP 8 (.call 261 [.t 6,.t 7,.f 259]) [0,1],
fc 9 8 0 [2],
fc 10 8 1 [2],
dg 4 4 9 [3,2,0,1,2,3,4],
aq 5 10 [4,5,0,1,2,3,4,5]])
.ret))⟩
def f259:bg:=⟨12,[.t 4,.t 5],
(.seq (.ops [
aP 4 (.mv (.c (.pv (.int .u64 0)))) [],
fR 5 false [0]])
(.seq (.ops [
aq 6 0 [],
aq 7 1 [],
eu 8 .sub 6 7 [0,1],
aq 9 0 [],
aq 10 1 [],
eu 11 .geq 9 10 [3,4],
aq 4 8 [2,0,1,2],
aq 5 11 [5,6,0,1,2,3,4,5,6]])
.ret))⟩
def yI:bz :=
(.seq (.ops [
eu 12 .lss 11 10 []])
(.seq (.cond (.t 12)
.skip
(.exit 0))
(.seq (.block 1
(.seq (.ops [
ft 13 4 9 11 [],
bZ 14 4 13 [0],
aP 6 (.alloc [.pv (.int .u64 0),.pv (.int .u64 0),.pv (.int .u64 0),.pv (.int .u64 0)]) [],
dg 4 6 14 [2,1,0,1,2]])
(.seq (.ops [
bZ 16 4 4 [],
bZ 17 4 6 [],
aP 18 (.call 255 [.t 16,.t 17]) [0,1],
aq 15 18 [2],
fc 19 15 0 [3],
fc 20 15 1 [3],
aP 7 (.alloc [.pv (.int .u64 0),.pv (.int .u64 0),.pv (.int .u64 0),.pv (.int .u64 0)]) [],
dg 4 7 19 [6,4,2,0,1,2,3,4,6],
aq 8 20 [5,7,0,1,2,3,4,5,6,7]])
(.seq (.seq (.ops [
aq 21 8 [],
aP 22 (.bin .neq (some (.iface true)) (.t 21) (.c (.pv .dJ))) [0]])
(.cond (.t 22)
(.seq (.ops [
aP 23 (.build [.pv (.int .u64 0),.pv (.int .u64 0),.pv (.int .u64 0),.pv (.int .u64 0)] []) [],
aq 24 8 [],
dg 4 2 23 [0,0],
aq 3 24 [1,2,0,1,2]])
.ret)
.skip))
(.ops [
bZ 25 4 7 [],
dg 4 4 25 [0,0]])))))
(.ops [
cM 26 .add 11 1 [],
aq 11 26 [0]]))))
def f260:bg:=⟨28,[.cell 2 true 4,.t 3],
(.seq (.ops [
aP 2 (.alloc [.pv (.int .u64 0),.pv (.int .u64 0),.pv (.int .u64 0),.pv (.int .u64 0)]) [],
jm 3 []])
(.seq (.ops [
aP 4 (.alloc [.pv (.int .u64 0),.pv (.int .u64 0),.pv (.int .u64 0),.pv (.int .u64 0)]) []])
(.seq (.seq (.ops [
aq 9 0 [],
fW 10 9 [0],
cT 11 0 []])
(.block 0
(.loop yI)))
(.seq (.ops [
bZ 27 4 4 [],
dg 4 2 27 [0,0],
jm 3 [1,0,1]])
.ret))))⟩
def rS:bz :=
(.seq (.ops [
cM 13 .lss 12 4 []])
(.seq (.cond (.t 13)
.skip
(.exit 0))
(.seq (.block 1
(.seq (.ops [
aq 14 12 [],
aq 9 14 [0,0]])
(.seq (.draw [
aq 16 2 [],
aq 17 9 [],
aP 18 (.dB 4 1 (.t 3) (.t 17)) [1],
bQ 19 1 18 [2],
aq 20 9 [],
aP 21 (.dB 4 1 (.t 4) (.t 20)) [4],
bQ 22 1 21 [5],
aP 23 (.fJ (.t 16) [.t 19,.t 22]) [0,3,6],
aq 15 23 [7],
fc 24 15 0 [8],
fc 25 15 1 [8],
aq 10 24 [9,7,0,1,2,3,4,5,6,7,8,9],
aq 11 25 [10,11,0,1,2,3,4,5,6,7,8,9,10,11]])
(.seq (.seq (.ops [
aq 26 11 [],
aP 27 (.not (.t 26)) [0]])
(.cond (.t 27)
(.seq (.ops [
aP 28 (.build [.pv (.int .u64 0),.pv (.int .u64 0),.pv (.int .u64 0),.pv (.int .u64 0)] []) [],
aP 29 (.kO 0 (.c (.pv (.int .i64 8)))) [],
dg 4 6 28 [0,0],
aq 7 29 [1,2,0,1,2]])
.ret)
.skip))
(.ops [
aq 30 9 [],
aq 31 10 [],
aP 32 (.dB 4 1 (.t 8) (.t 30)) [0,0,1],
dg 1 32 31 [2,1,0,1]])))))
(.ops [
cM 33 .add 12 1 [],
aq 12 33 [0]]))))
def f261:bg:=⟨35,[.cell 6 true 4,.t 7],
(.seq (.ops [
df 3 0 [],
df 4 1 [],
aP 6 (.alloc [.pv (.int .u64 0),.pv (.int .u64 0),.pv (.int .u64 0),.pv (.int .u64 0)]) [],
jm 7 []])
(.seq (.ops [
aP 8 (.alloc [.pv (.int .u64 0),.pv (.int .u64 0),.pv (.int .u64 0),.pv (.int .u64 0)]) []])
(.seq (.seq (.ops [
cT 12 0 []])
(.block 0
(.loop rS)))
(.seq (.ops [
bZ 34 4 8 [],
dg 4 6 34 [0,0],
jm 7 [1,0,1]])
.ret))))⟩
def jX:fD:=⟨0,false,0,0,0⟩
def gy(id:Int)(l:List fD):Option fD:=l.find? (fun n=>decide (n.id=id))
def lX:Option fD->PV
 |some n=>.tuple [.agg (bN n),.bool true]
 |none=>.tuple [.agg (bN jX),.bool false]
theorem Fl{T:cL}(l:List fD)(id:Int)(hl:l.length<=2^30)(Q:Exit->St->Prop)(o:Option fD)
    (bS:o=none->∀fr hp nx,look fr 4=.ptr 1 0 0->ah hp 1=.var (dK (bN jX))->Q (.exit 0) ⟨fr,hp,nx⟩)
    (dI:∀n,o=some n->∀fr hp nx,look fr 4=.ptr 1 0 0->look fr 5=.pv (.bool true)->ah hp 1=.var (dK (bN n))->Q .ret ⟨fr,hp,nx⟩) :
    ∀(rest:List fD) (i:Nat),l.drop i=rest->i<=l.length->gy id rest=o->∀(fr:List (Nat×AV)) (hp:Hl) (nx:Nat),2<=nx->look fr 4=.ptr 1 0 0->ah hp 1=.var (dK (bN jX)) ->
     look fr 1=.pv (.int .i64 id)->look fr 9=.pv (.slice (l.map bN))->look fr 10=.pv (.int .i64 l.length)->look fr 11=.pv (.int .i64 i)->Wp T false (.loop Dy) ⟨fr,hp,nx⟩ Q:=by
 intro rest;induction rest with
 |nil =>
  intro i hd hi ho fr hp nx hn h4 b1 h1 h9 h10 h11;have hlen:=drop_nil hd hi;rw[ay,aY Dy.eq_1];simp only[rM',aa,simprocAttr,h4,h1,h9,h10,h11,hlen,aR];refine bS ho.symm _ _ _ ?_ b1;simp only[bG,Nat.reduceEqDiff,aI,h4]
 |cons n r ih =>
  intro i hd hi ho fr hp nx hn h4 b1 h1 h9 h10 h11;obtain⟨aK,hlt,hw,di,cS,hb⟩:=drop_cons hd hl;have n1:¬nx=1:=by omega
  have rB:=b1;simp only[bN,jX,dK]at rB;rw[ay,aY Dy.eq_1];by_cases hk:n.id=id
  ·simp only[rM',aa,simprocAttr,h4,rB,h1,h9,h10,h11,hlt,aK,bN,n1,hk];refine dI n (by rw[<-ho];simp[gy,hk]) _ _ _ ?_ ?_ ?_
   all_goals simp only[bG,aF,Nat.reduceEqDiff,bA,aI,h4,n1,bN,dK,hk]
  ·simp only[rM',aa,simprocAttr,h4,rB,h1,h9,h10,h11,hlt,aK,bN,n1,hk,hw];refine ih (i+1) di cS (by rw[<-ho];simp[gy,hk]) _ _ _ (by omega) ?_ ?_ ?_ ?_ ?_ ?_
   all_goals simp only[bG,aF,Nat.reduceEqDiff,bA,aI,h4,b1,n1,h1,h9,h10]
theorem DT{T:cL}(h:Std T 81 f81)(s:bc)(id:Int)(hl:s.aU.length<=2^30):ba T 81 [aD s,.int .i64 id] (lX (gy id s.aU)):=by
 refine gives h rfl ?_;simp only[f81,rM',aa,simprocAttr,aD];refine Fl s.aU id hl _ (gy id s.aU) (fun ho fr hp nx h4 b1=>?_) (fun n ho fr hp nx h4 h5 b1=>?_) s.aU 0 rfl (aN _) rfl _ _ _ (ax _) rfl rfl rfl rfl rfl rfl
 ·simp only[bN,jX,dK]at b1;simp only[rM',aa,simprocAttr,ho,lX,h4,b1,bN,jX]
 ·simp only[bN,dK]at b1;simp only[rM',aa,simprocAttr,ho,lX,h4,h5,b1,bN]
def wu(ls:List fD)(a b:dx):Bool:=decide (a.load=b.load)&&(decide (a.node=b.node)&&(decide (a.node≠0)&&(match gy a.load ls with|some l=>l.apart|none=>false)))
theorem Nl{T:cL}(J3:Std T 69 f69)(DI:Std T 81 f81)(s:bc)(hs:s.aU.length<=2^30)(a b:dx):ba T 69 [aD s,.agg (aJ a),.agg (aJ b)] (.bool (wu s.aU a b)):=by
 refine gives J3 rfl ?_;have k:=DT DI s a.load hs;unfold wu;cases hl:gy a.load s.aU with
 |none =>
  rw[hl]at k;by_cases c1:a.load=b.load
  ·by_cases c2:a.node=b.node
   ·by_cases c3:b.node=0
    ·simp only[f69,rM',aa,simprocAttr,aD,aJ,k.call,lX,bN,jX,c1,c2,c3,dV,cB,bh,bw]
    ·simp only[f69,rM',aa,simprocAttr,aD,aJ,k.call,lX,bN,jX,c1,c2,c3,dV,cB,bh,bw]
   ·simp only[f69,rM',aa,simprocAttr,aD,aJ,k.call,lX,bN,jX,c1,c2,dV,cB,bh,bw]
  ·simp only[f69,rM',aa,simprocAttr,aD,aJ,k.call,lX,bN,jX,c1,dV,cB,bh,bw]
 |some l =>
  rw[hl]at k;by_cases c1:a.load=b.load
  ·by_cases c2:a.node=b.node
   ·by_cases c3:b.node=0
    ·simp only[f69,rM',aa,simprocAttr,aD,aJ,k.call,lX,bN,jX,c1,c2,c3,dV,cB,bh,bw]
    ·cases c4:l.apart
     ·simp only[f69,rM',aa,simprocAttr,aD,aJ,k.call,lX,bN,jX,c1,c2,c3,c4,dV,cB,bh,bw]
     ·simp only[f69,rM',aa,simprocAttr,aD,aJ,k.call,lX,bN,jX,c1,c2,c3,c4,dV,cB,bh,bw]
   ·simp only[f69,rM',aa,simprocAttr,aD,aJ,k.call,lX,bN,jX,c1,c2,dV,cB,bh,bw]
  ·simp only[f69,rM',aa,simprocAttr,aD,aJ,k.call,lX,bN,jX,c1,dV,cB,bh,bw]
def dN(ls:List fD):List dx->List dx->Option (Int×Int)
 |_,[]=>none
 |prev,p::r=>if prev.any (fun q=>wu ls p q)=true then some (10,prev.length)else dN ls (prev++[p]) r
theorem Gu{T:cL}(J3:Std T 69 f69)(DI:Std T 81 f81)(s:bc)(t:State)(hs:s.aU.length<=2^30)(qs:List dx)(hq:qs.length<=2^30)(p:dx)(i:Nat)(Pu:Nat)(Uu:2<=Pu)(Q:Exit->St->Prop)(b:Bool)
    (bS:b=false->∀fr hp nx,2<=nx->look fr 2=.ptr 0 0 0->look fr 3=.ptr 1 0 0->look fr 10=.pv (.slice (t.pods.map aJ))->look fr 11=.pv (.int .i64 t.pods.length)->look fr 12=.pv (.int .i64 i) ->
     ah hp 0=.var [.pv (.slice (s.nodes.map bB)),.pv (.slice (s.aU.map bN)),.pv (.slice (s.pods.map aJ))]->ah hp 1=.var [.pv (.slice (t.pods.map aJ)),.pv (.int .i64 t.pre),.pv (.int .i64 t.eW)]->Q (.exit 2) ⟨fr,hp,nx⟩)
    (dI:b=true->∀fr hp nx id,look fr 4=.iface 1 (.ptr id 0 0)->ah hp id=.var [.pv (.int .i64 i),.pv (.int .i64 10)]->Q .ret ⟨fr,hp,nx⟩) :
    ∀(rest:List dx) (k:Nat),qs.drop k=rest->k<=qs.length->rest.any (fun q=>wu s.aU p q)=b->∀(fr:List (Nat×AV)) (hp:Hl) (nx:Nat),Pu<nx ->
     look fr 2=.ptr 0 0 0->look fr 3=.ptr 1 0 0->look fr 10=.pv (.slice (t.pods.map aJ))->look fr 11=.pv (.int .i64 t.pods.length)->look fr 12=.pv (.int .i64 i) ->
     ah hp 0=.var [.pv (.slice (s.nodes.map bB)),.pv (.slice (s.aU.map bN)),.pv (.slice (s.pods.map aJ))]->ah hp 1=.var [.pv (.slice (t.pods.map aJ)),.pv (.int .i64 t.pre),.pv (.int .i64 t.eW)] ->
     look fr 5=.pv (.int .i64 i)->look fr 6=.ptr Pu 0 0->ah hp Pu=.var (dK (aJ p))->look fr 20=.pv (.slice (qs.map aJ))->look fr 21=.pv (.int .i64 qs.length)->look fr 22=.pv (.int .i64 k) ->
     Wp T false (.loop Dq) ⟨fr,hp,nx⟩ Q:=by
 intro rest;induction rest with
 |nil =>
  intro k hd hi hb fr hp nx hn h2 h3 h10 h11 kD b0 b1 h5 h6 bp Oo Oq Qd;have hlen:=drop_nil hd hi;rw[ay,aY Dq.eq_1];simp only[rM',aa,simprocAttr,Oo,Oq,Qd,hlen,aR];refine bS (by rw[<-hb];rfl) _ _ _ (by omega) ?_ ?_ ?_ ?_ ?_ b0 b1
  all_goals simp only[bG,Nat.reduceEqDiff,aI,h2,h3,h10,h11,kD]
 |cons q r ih =>
  intro k hd hi hb fr hp nx hn h2 h3 h10 h11 kD b0 b1 h5 h6 bp Oo Oq Qd;obtain⟨aK,hlt,hw,di,cS,Bu⟩:=drop_cons hd hq;have n0:¬nx=0:=by omega
  have n1:¬nx=1:=by omega
  have np:¬nx=Pu:=by omega
  have kt:=Nl J3 DI s hs p q;have QU:=bp;simp only[aJ,dK]at QU;simp only[aJ]at kt;rw[ay,aY Dq.eq_1];cases ht:wu s.aU p q
  ·rw[ht]at kt;simp only[rM',aa,simprocAttr,h2,b0,h6,QU,Oo,Oq,Qd,hlt,aK,aJ,n0,n1,np,kt.call,aD,hw];refine ih (k+1) di cS (by rw[<-hb];simp[ht]) _ _ _ (by omega) ?_ ?_ ?_ ?_ ?_ ?_ ?_ ?_ ?_ ?_ ?_ ?_ ?_
   all_goals simp only[bG,aF,Nat.reduceEqDiff,bA,aI,h2,h3,h10,h11,kD,b0,b1,h5,h6,bp,Oo,Oq,n0,n1,np]
  ·rw[ht]at kt;simp only[rM',aa,simprocAttr,h2,b0,h5,h6,QU,Oo,Oq,Qd,hlt,aK,aJ,n0,n1,np,kt.call,aD];refine dI (by rw[<-hb];simp[ht]) _ _ _ (nx+1) ?_ ?_
   ·simp only[bG,Nat.reduceEqDiff,bA,aI]
   ·simp only[aF,bA]
theorem Eo{T:cL}(J3:Std T 69 f69)(DI:Std T 81 f81)(s:bc)(t:State)(hs:s.aU.length<=2^30)(ht:t.pods.length<=2^30)(Q:Exit->St->Prop)(o:Option (Int×Int))
    (bS:o=none->∀fr hp nx,Q (.exit 0) ⟨fr,hp,nx⟩)
    (dI:∀c i,o=some (c,i)->∀fr hp nx id,look fr 4=.iface 1 (.ptr id 0 0)->ah hp id=.var [.pv (.int .i64 i),.pv (.int .i64 c)]->Q .ret ⟨fr,hp,nx⟩) :
    ∀(rest:List dx) (i:Nat),t.pods.drop i=rest->i<=t.pods.length->dN s.aU (t.pods.take i) rest=o->∀(fr:List (Nat×AV)) (hp:Hl) (nx:Nat),2<=nx ->
     look fr 2=.ptr 0 0 0->look fr 3=.ptr 1 0 0->look fr 10=.pv (.slice (t.pods.map aJ))->look fr 11=.pv (.int .i64 t.pods.length)->look fr 12=.pv (.int .i64 i) ->
     ah hp 0=.var [.pv (.slice (s.nodes.map bB)),.pv (.slice (s.aU.map bN)),.pv (.slice (s.pods.map aJ))]->ah hp 1=.var [.pv (.slice (t.pods.map aJ)),.pv (.int .i64 t.pre),.pv (.int .i64 t.eW)] ->
     Wp T false (.loop Dr) ⟨fr,hp,nx⟩ Q:=by
 intro rest;induction rest with
 |nil =>
  intro i hd hi ho fr hp nx hn h2 h3 h10 h11 kD b0 b1;have hlen:=drop_nil hd hi;rw[ay,aY Dr.eq_1];simp only[rM',aa,simprocAttr,h10,h11,kD,hlen,aR];exact bS ho.symm _ _ _
 |cons p r ih =>
  intro i hd hi ho fr hp nx hn h2 h3 h10 h11 kD b0 b1;obtain⟨aK,hlt,hw,di,cS,Bu⟩:=drop_cons hd ht;have n0:¬nx=0:=by omega
  have n1:¬nx=1:=by omega
  have uM:i<=t.pods.length:=by omega
  have Po:(t.pods.take i).length=i:=List.length_take_of_le uM;simp only[dN,Po]at ho;rw[ay,aY Dr.eq_1];simp only[rM',aa,simprocAttr,h3,b1,h10,h11,kD,hlt,aK,aJ,n0,n1,nZ,nf,ia,fe,cW,aN,uM];simp only[Nat.sub_zero,<-List.map_take,al,Po];refine Gu J3 DI s t hs (t.pods.take i) (by omega) p i nx hn _ ((t.pods.take i).any (fun q=>wu s.aU p q)) ?_ ?_ (t.pods.take i) 0 rfl (aN _) rfl _ _ _ (Nat.lt_succ_self _) ?_ ?_ ?_ ?_ ?_ ?_ ?_ ?_ ?_ ?_ ?_ ?_ ?_
  ·intro hb fE hp' cE g0 g2 g3 yM EX nU U9 Ua;simp only[rM',aa,simprocAttr,nU,hw];rw[aw (by rw[hb];simp)]at ho;refine ih (i+1) di cS ?_ _ _ _ g0 ?_ ?_ ?_ ?_ ?_ U9 Ua
   ·rw[<-ho,List.take_add_one,aK];rfl
   all_goals simp only[bG,Nat.reduceEqDiff,bA,aI,g2,g3,yM,EX,nU]
  ·intro hb fE hp' cE id g4 gb;rw[aW hb]at ho;simp only[rM',aa,simprocAttr];exact dI 10 i ho.symm _ _ _ id g4 gb
  all_goals simp only[bG,aF,Nat.reduceEqDiff,bA,aI,h2,h3,h10,h11,kD,b0,b1,n0,n1,aJ,dK,Po]
  all_goals rfl
theorem Gv{T:cL}(Qf:Std T 68 f68)(J3:Std T 69 f69)(DI:Std T 81 f81)(s:bc)(t:State)(hs:s.aU.length<=2^30)(ht:t.pods.length<=2^30):ba T 68 [aD s,ar t] (jR (dN s.aU [] t.pods)):=by
 refine gives Qf rfl ?_;simp only[f68,rM',aa,simprocAttr,aD,ar];refine Eo J3 DI s t hs ht _ (dN s.aU [] t.pods) (fun ho fr hp nx=>?_) (fun c i ho fr hp nx id h4 hb=>?_) t.pods 0 rfl (aN _) rfl _ _ _ (ax _) rfl rfl rfl rfl rfl rfl rfl
 ·simp only[rM',aa,simprocAttr,ho,jR]
 ·simp only[rM',aa,simprocAttr,ho,jR,h4,hb,gk]
section
def cD(v:jC):PV:=.agg (cj v)
def cG:jC:=⟨0,0,0,0⟩
def ji(o:Int->Int->Int)(ok:Int->Int->Bool)(a b:jC):Option jC :=
 if ok a.a b.a=true then if ok a.b b.b=true then if ok a.c b.c=true then if ok a.d b.d=true then some ⟨o a.a b.a,o a.b b.b,o a.c b.c,o a.d b.d⟩else none else none else none else none
def hJ:Option jC->PV
 |some v=>.tuple [cD v,.dJ]
 |none=>.tuple [cD cG,cf 8]
theorem tF{T:cL}(h:Std T 259 f259)(x y:Int):ba T 259 [.int .u64 x,.int .u64 y] (.tuple [.int .u64 (IntKind.u64.wrap (x-y)),.bool (decide (y<=x))]):=by
 refine gives h rfl ?_;simp only[f259,ae,ag,aa,Nat.reduceEqDiff,Nat.reduceAdd,reduceCtorEq,Int.reduceToNat,Nat.reduceMul,Nat.reduceLT,Int.reduceNeg,Int.reduceLE,Int.reduceLT,Int.reduceEq,Nat.reduceLeDiff,List.drop,List.take,aO,aT]
set_option maxRecDepth 100000 in
set_option maxHeartbeats 4000000 in
theorem Dn{T:cL}(h:Std T 261 f261){n:Nat}(o:Int->Int->Int)(ok:Int->Int->Bool)(a b:jC)(ha:ba T n [.int .u64 a.a,.int .u64 b.a] (.tuple [.int .u64 (o a.a b.a),.bool (ok a.a b.a)]))
    (hb:ba T n [.int .u64 a.b,.int .u64 b.b] (.tuple [.int .u64 (o a.b b.b),.bool (ok a.b b.b)])) (hc:ba T n [.int .u64 a.c,.int .u64 b.c] (.tuple [.int .u64 (o a.c b.c),.bool (ok a.c b.c)]))
    (hd:ba T n [.int .u64 a.d,.int .u64 b.d] (.tuple [.int .u64 (o a.d b.d),.bool (ok a.d b.d)])):ba T 261 [cD a,cD b,.func n [] []] (hJ (ji o ok a b)):=by
 refine gives h rfl ?_;have w0:IntKind.i64.wrap (0+1)=1:=by decide
 have w1:IntKind.i64.wrap (1+1)=2:=by decide
 have w2:IntKind.i64.wrap (2+1)=3:=by decide
 have w3:IntKind.i64.wrap (3+1)=4:=by decide
 simp only[f261,ae,ag,aa,Nat.reduceEqDiff,Nat.reduceAdd,reduceCtorEq,Int.reduceToNat,Nat.reduceMul,Nat.reduceLT,Int.reduceNeg,Int.reduceLE,Int.reduceLT,Int.reduceEq,Nat.reduceLeDiff,List.drop,List.take,aO,aT,cD,cj];rw[ay,aY rS.eq_1];simp only[ae,ag,aa,Nat.reduceEqDiff,Nat.reduceAdd,reduceCtorEq,Int.reduceToNat,Nat.reduceMul,Nat.reduceLT,Int.reduceNeg,Int.reduceLE,Int.reduceLT,Int.reduceEq,Nat.reduceLeDiff,List.drop,List.take,aO,aT];refine(eg rfl).2 ?_;cases e1:ok a.a b.a
 ·simp only[ae,ag,aa,Nat.reduceEqDiff,Nat.reduceAdd,reduceCtorEq,Int.reduceToNat,Nat.reduceMul,Nat.reduceLT,Int.reduceNeg,Int.reduceLE,Int.reduceLT,Int.reduceEq,Nat.reduceLeDiff,List.drop,List.take,aO,aT,ha.cn,e1,ji,hJ,cD,cj,cG,cf]
 ·simp only[ae,ag,aa,Nat.reduceEqDiff,Nat.reduceAdd,reduceCtorEq,Int.reduceToNat,Nat.reduceMul,Nat.reduceLT,Int.reduceNeg,Int.reduceLE,Int.reduceLT,Int.reduceEq,Nat.reduceLeDiff,List.drop,List.take,aO,aT,ha.cn,e1,w0];rw[ay,aY rS.eq_1];simp only[ae,ag,aa,Nat.reduceEqDiff,Nat.reduceAdd,reduceCtorEq,Int.reduceToNat,Nat.reduceMul,Nat.reduceLT,Int.reduceNeg,Int.reduceLE,Int.reduceLT,Int.reduceEq,Nat.reduceLeDiff,List.drop,List.take,aO,aT];refine(eg rfl).2 ?_;cases e2:ok a.b b.b
  ·simp only[ae,ag,aa,Nat.reduceEqDiff,Nat.reduceAdd,reduceCtorEq,Int.reduceToNat,Nat.reduceMul,Nat.reduceLT,Int.reduceNeg,Int.reduceLE,Int.reduceLT,Int.reduceEq,Nat.reduceLeDiff,List.drop,List.take,aO,aT,hb.cn,e1,e2,ji,hJ,cD,cj,cG,cf]
  ·simp only[ae,ag,aa,Nat.reduceEqDiff,Nat.reduceAdd,reduceCtorEq,Int.reduceToNat,Nat.reduceMul,Nat.reduceLT,Int.reduceNeg,Int.reduceLE,Int.reduceLT,Int.reduceEq,Nat.reduceLeDiff,List.drop,List.take,aO,aT,hb.cn,e2,w1];rw[ay,aY rS.eq_1];simp only[ae,ag,aa,Nat.reduceEqDiff,Nat.reduceAdd,reduceCtorEq,Int.reduceToNat,Nat.reduceMul,Nat.reduceLT,Int.reduceNeg,Int.reduceLE,Int.reduceLT,Int.reduceEq,Nat.reduceLeDiff,List.drop,List.take,aO,aT];refine(eg rfl).2 ?_;cases e3:ok a.c b.c
   ·simp only[ae,ag,aa,Nat.reduceEqDiff,Nat.reduceAdd,reduceCtorEq,Int.reduceToNat,Nat.reduceMul,Nat.reduceLT,Int.reduceNeg,Int.reduceLE,Int.reduceLT,Int.reduceEq,Nat.reduceLeDiff,List.drop,List.take,aO,aT,hc.cn,e1,e2,e3,ji,hJ,cD,cj,cG,cf]
   ·simp only[ae,ag,aa,Nat.reduceEqDiff,Nat.reduceAdd,reduceCtorEq,Int.reduceToNat,Nat.reduceMul,Nat.reduceLT,Int.reduceNeg,Int.reduceLE,Int.reduceLT,Int.reduceEq,Nat.reduceLeDiff,List.drop,List.take,aO,aT,hc.cn,e3,w2];rw[ay,aY rS.eq_1];simp only[ae,ag,aa,Nat.reduceEqDiff,Nat.reduceAdd,reduceCtorEq,Int.reduceToNat,Nat.reduceMul,Nat.reduceLT,Int.reduceNeg,Int.reduceLE,Int.reduceLT,Int.reduceEq,Nat.reduceLeDiff,List.drop,List.take,aO,aT];refine(eg rfl).2 ?_;cases e4:ok a.d b.d
    ·simp only[ae,ag,aa,Nat.reduceEqDiff,Nat.reduceAdd,reduceCtorEq,Int.reduceToNat,Nat.reduceMul,Nat.reduceLT,Int.reduceNeg,Int.reduceLE,Int.reduceLT,Int.reduceEq,Nat.reduceLeDiff,List.drop,List.take,aO,aT,hd.cn,e1,e2,e3,e4,ji,hJ,cD,cj,cG,cf]
    ·simp only[ae,ag,aa,Nat.reduceEqDiff,Nat.reduceAdd,reduceCtorEq,Int.reduceToNat,Nat.reduceMul,Nat.reduceLT,Int.reduceNeg,Int.reduceLE,Int.reduceLT,Int.reduceEq,Nat.reduceLeDiff,List.drop,List.take,aO,aT,hd.cn,e4,w3];rw[ay,aY rS.eq_1];simp only[ae,ag,aa,Nat.reduceEqDiff,Nat.reduceAdd,reduceCtorEq,Int.reduceToNat,Nat.reduceMul,Nat.reduceLT,Int.reduceNeg,Int.reduceLE,Int.reduceLT,Int.reduceEq,Nat.reduceLeDiff,List.drop,List.take,aO,aT,e1,e2,e3,e4,ji,hJ,cD,cj,cG,cf]
theorem vK{n:Int}(h1:0<=n)(h2:n<18446744073709551616):IntKind.u64.wrap n=n:=by
 simp only[IntKind.wrap,IntKind.bits,IntKind.signed];simp;omega
/-! ### The uc SE -/
def DJ(a:Int)(up:Bool):Int:=cond up (a/4294967296) (a % 4294967296)
theorem tw{T:cL}(h:Std T 144 f144)(a:Int)(up:Bool)(ha:Cg a):ba T 144 [.int .u64 a,.bool up] (.int .u64 (DJ a up)):=by
 refine gives h rfl ?_;obtain⟨h1,h2⟩:=ha;have e1:a.tdiv (Int.ofNat 4294967296)=a/4294967296:=Int.tdiv_eq_ediv_of_nonneg h1;have e2:a.tmod (Int.ofNat 4294967296)=a % 4294967296:=Int.tmod_eq_emod_of_nonneg h1;have e3:IntKind.u64.wrap (a/4294967296)=a/4294967296:=vK (by omega) (by omega);cases up
 ·simp only[f144,ae,ag,aa,Nat.reduceEqDiff,Nat.reduceAdd,reduceCtorEq,Int.reduceToNat,Nat.reduceMul,Nat.reduceLT,Int.reduceNeg,Int.reduceLE,Int.reduceLT,Int.reduceEq,Nat.reduceLeDiff,List.drop,List.take,aO,aT,e1,e2,e3,DJ]
 ·simp only[f144,ae,ag,aa,Nat.reduceEqDiff,Nat.reduceAdd,reduceCtorEq,Int.reduceToNat,Nat.reduceMul,Nat.reduceLT,Int.reduceNeg,Int.reduceLE,Int.reduceLT,Int.reduceEq,Nat.reduceLeDiff,List.drop,List.take,aO,aT,e1,e2,e3,DJ]
def gm(a b:Int):Bool:=decide (a+b<18446744073709551616)
def Bm(a b:Int):Int:=cond (gm a b) (a+b) 0
theorem zf{T:cL}(qN:Std T 145 f145)(oB:Std T 144 f144)(a b:Int)(ha:Cg a)(hb:Cg b):ba T 145 [.int .u64 a,.int .u64 b] (.tuple [.int .u64 (Bm a b),.bool (gm a b)]):=by
 refine gives qN rfl ?_;have k1:=tw oB a false ha;have k2:=tw oB b false hb;have k3:=tw oB a true ha;have k4:=tw oB b true hb;obtain⟨a1,a2⟩:=ha;obtain⟨b1,b2⟩:=hb;simp only[DJ,gP,fm]at k1 k2 k3 k4;have e1:IntKind.u64.wrap (a % 4294967296+b % 4294967296)=a % 4294967296+b % 4294967296:=vK (by omega) (by omega);have e2:IntKind.u64.wrap (a/4294967296+b/4294967296)=a/4294967296+b/4294967296:=vK (by omega) (by omega);have e3:(a % 4294967296+b % 4294967296).tdiv (Int.ofNat 4294967296)=(a % 4294967296+b % 4294967296)/4294967296:=Int.tdiv_eq_ediv_of_nonneg (by omega);have e4:IntKind.u64.wrap ((a % 4294967296+b % 4294967296)/4294967296)=(a % 4294967296+b % 4294967296)/4294967296:=vK (by omega) (by omega);have e5:IntKind.u64.wrap (a/4294967296+b/4294967296+(a % 4294967296+b % 4294967296)/4294967296)=(a+b)/4294967296:=by
  rw[vK (by omega) (by omega)];omega
 have e6:(a % 4294967296+b % 4294967296).tmod (Int.ofNat 4294967296)=(a+b) % 4294967296:=by
  rw[Int.tmod_eq_emod_of_nonneg (by omega)];show(a % 4294967296+b % 4294967296) % 4294967296=_;omega
 by_cases c:4294967296<=(a+b)/4294967296
 ·have hs:gm a b=false:=by simp only[gm,decide_eq_false_iff_not];omega
  simp only[f145,ae,ag,aa,Nat.reduceEqDiff,Nat.reduceAdd,reduceCtorEq,Int.reduceToNat,Nat.reduceMul,Nat.reduceLT,Int.reduceNeg,Int.reduceLE,Int.reduceLT,Int.reduceEq,Nat.reduceLeDiff,List.drop,List.take,aO,aT,k1.call,k2.call,k3.call,k4.call,e1,e2,e3,e4,e5,c,Bm,hs]
 ·have hs:gm a b=true:=by simp only[gm,bO];omega
  have e7:IntKind.u64.wrap ((a+b)/4294967296*4294967296)=(a+b)/4294967296*4294967296:=vK (by omega) (by omega);have e8:IntKind.u64.wrap ((a+b)/4294967296*4294967296+(a+b) % 4294967296)=a+b:=by
   rw[vK (by omega) (by omega)];omega
  simp only[f145,ae,ag,aa,Nat.reduceEqDiff,Nat.reduceAdd,reduceCtorEq,Int.reduceToNat,Nat.reduceMul,Nat.reduceLT,Int.reduceNeg,Int.reduceLE,Int.reduceLT,Int.reduceEq,Nat.reduceLeDiff,List.drop,List.take,aO,aT,k1.call,k2.call,k3.call,k4.call,e1,e2,e3,e4,e5,e6,e7,e8,c,Bm,hs]
def pQ(a b:jC):Option jC:=ji Bm gm a b
def jL:Option jC->PV
 |some v=>.tuple [cD v,.bool true]
 |none=>.tuple [cD cG,.bool false]
set_option maxRecDepth 100000 in
set_option maxHeartbeats 4000000 in
theorem Gq{T:cL}(yR:Std T 140 f140)(qN:Std T 145 f145)(oB:Std T 144 f144)(a b:jC)(ha:a.wf)(hb:b.wf):ba T 140 [cD a,cD b] (jL (pQ a b)):=by
 refine gives yR rfl ?_;obtain⟨x1,x2,x3,x4⟩:=ha;obtain⟨y1,y2,y3,y4⟩:=hb;have ka:=zf qN oB a.a b.a x1 y1;have kb:=zf qN oB a.b b.b x2 y2;have kc:=zf qN oB a.c b.c x3 y3;have kd:=zf qN oB a.d b.d x4 y4;have w0:IntKind.i64.wrap (0+1)=1:=by decide
 have w1:IntKind.i64.wrap (1+1)=2:=by decide
 have w2:IntKind.i64.wrap (2+1)=3:=by decide
 have w3:IntKind.i64.wrap (3+1)=4:=by decide
 simp only[f140,ae,ag,aa,Nat.reduceEqDiff,Nat.reduceAdd,reduceCtorEq,Int.reduceToNat,Nat.reduceMul,Nat.reduceLT,Int.reduceNeg,Int.reduceLE,Int.reduceLT,Int.reduceEq,Nat.reduceLeDiff,List.drop,List.take,aO,aT,cD,cj];rw[ay,aY rO.eq_1];simp only[ae,ag,aa,Nat.reduceEqDiff,Nat.reduceAdd,reduceCtorEq,Int.reduceToNat,Nat.reduceMul,Nat.reduceLT,Int.reduceNeg,Int.reduceLE,Int.reduceLT,Int.reduceEq,Nat.reduceLeDiff,List.drop,List.take,aO,aT];refine(eg rfl).2 ?_;cases e1:gm a.a b.a
 ·simp only[ae,ag,aa,Nat.reduceEqDiff,Nat.reduceAdd,reduceCtorEq,Int.reduceToNat,Nat.reduceMul,Nat.reduceLT,Int.reduceNeg,Int.reduceLE,Int.reduceLT,Int.reduceEq,Nat.reduceLeDiff,List.drop,List.take,aO,aT,ka.cn,e1,pQ,ji,jL,cD,cj,cG]
 ·simp only[ae,ag,aa,Nat.reduceEqDiff,Nat.reduceAdd,reduceCtorEq,Int.reduceToNat,Nat.reduceMul,Nat.reduceLT,Int.reduceNeg,Int.reduceLE,Int.reduceLT,Int.reduceEq,Nat.reduceLeDiff,List.drop,List.take,aO,aT,ka.cn,e1,w0];rw[ay,aY rO.eq_1];simp only[ae,ag,aa,Nat.reduceEqDiff,Nat.reduceAdd,reduceCtorEq,Int.reduceToNat,Nat.reduceMul,Nat.reduceLT,Int.reduceNeg,Int.reduceLE,Int.reduceLT,Int.reduceEq,Nat.reduceLeDiff,List.drop,List.take,aO,aT];refine(eg rfl).2 ?_;cases e2:gm a.b b.b
  ·simp only[ae,ag,aa,Nat.reduceEqDiff,Nat.reduceAdd,reduceCtorEq,Int.reduceToNat,Nat.reduceMul,Nat.reduceLT,Int.reduceNeg,Int.reduceLE,Int.reduceLT,Int.reduceEq,Nat.reduceLeDiff,List.drop,List.take,aO,aT,kb.cn,e1,e2,pQ,ji,jL,cD,cj,cG]
  ·simp only[ae,ag,aa,Nat.reduceEqDiff,Nat.reduceAdd,reduceCtorEq,Int.reduceToNat,Nat.reduceMul,Nat.reduceLT,Int.reduceNeg,Int.reduceLE,Int.reduceLT,Int.reduceEq,Nat.reduceLeDiff,List.drop,List.take,aO,aT,kb.cn,e2,w1];rw[ay,aY rO.eq_1];simp only[ae,ag,aa,Nat.reduceEqDiff,Nat.reduceAdd,reduceCtorEq,Int.reduceToNat,Nat.reduceMul,Nat.reduceLT,Int.reduceNeg,Int.reduceLE,Int.reduceLT,Int.reduceEq,Nat.reduceLeDiff,List.drop,List.take,aO,aT];refine(eg rfl).2 ?_;cases e3:gm a.c b.c
   ·simp only[ae,ag,aa,Nat.reduceEqDiff,Nat.reduceAdd,reduceCtorEq,Int.reduceToNat,Nat.reduceMul,Nat.reduceLT,Int.reduceNeg,Int.reduceLE,Int.reduceLT,Int.reduceEq,Nat.reduceLeDiff,List.drop,List.take,aO,aT,kc.cn,e1,e2,e3,pQ,ji,jL,cD,cj,cG]
   ·simp only[ae,ag,aa,Nat.reduceEqDiff,Nat.reduceAdd,reduceCtorEq,Int.reduceToNat,Nat.reduceMul,Nat.reduceLT,Int.reduceNeg,Int.reduceLE,Int.reduceLT,Int.reduceEq,Nat.reduceLeDiff,List.drop,List.take,aO,aT,kc.cn,e3,w2];rw[ay,aY rO.eq_1];simp only[ae,ag,aa,Nat.reduceEqDiff,Nat.reduceAdd,reduceCtorEq,Int.reduceToNat,Nat.reduceMul,Nat.reduceLT,Int.reduceNeg,Int.reduceLE,Int.reduceLT,Int.reduceEq,Nat.reduceLeDiff,List.drop,List.take,aO,aT];refine(eg rfl).2 ?_;cases e4:gm a.d b.d
    ·simp only[ae,ag,aa,Nat.reduceEqDiff,Nat.reduceAdd,reduceCtorEq,Int.reduceToNat,Nat.reduceMul,Nat.reduceLT,Int.reduceNeg,Int.reduceLE,Int.reduceLT,Int.reduceEq,Nat.reduceLeDiff,List.drop,List.take,aO,aT,kd.cn,e1,e2,e3,e4,pQ,ji,jL,cD,cj,cG]
    ·simp only[ae,ag,aa,Nat.reduceEqDiff,Nat.reduceAdd,reduceCtorEq,Int.reduceToNat,Nat.reduceMul,Nat.reduceLT,Int.reduceNeg,Int.reduceLE,Int.reduceLT,Int.reduceEq,Nat.reduceLeDiff,List.drop,List.take,aO,aT,kd.cn,e4,w3];rw[ay,aY rO.eq_1];simp only[ae,ag,aa,Nat.reduceEqDiff,Nat.reduceAdd,reduceCtorEq,Int.reduceToNat,Nat.reduceMul,Nat.reduceLT,Int.reduceNeg,Int.reduceLE,Int.reduceLT,Int.reduceEq,Nat.reduceLeDiff,List.drop,List.take,aO,aT,e1,e2,e3,e4,pQ,ji,jL,cD,cj,cG]
def pJ(a b:jC):Bool:=decide (a.a<=b.a)&&(decide (a.b<=b.b)&&(decide (a.c<=b.c)&&decide (a.d<=b.d)))
theorem DD{T:cL}(Ar:Std T 141 f141)(a b:jC):ba T 141 [cD a,cD b] (.bool (pJ a b)):=by
 refine gives Ar rfl ?_;unfold pJ;by_cases c1:a.a<=b.a
 ·by_cases c2:a.b<=b.b
  ·by_cases c3:a.c<=b.c
   ·by_cases c4:a.d<=b.d
    ·simp only[f141,ae,ag,aa,Nat.reduceEqDiff,Nat.reduceAdd,reduceCtorEq,Int.reduceToNat,Nat.reduceMul,Nat.reduceLT,Int.reduceNeg,Int.reduceLE,Int.reduceLT,Int.reduceEq,Nat.reduceLeDiff,List.drop,List.take,aO,aT,cD,cj,c1,c2,c3,c4,bw]
    ·simp only[f141,ae,ag,aa,Nat.reduceEqDiff,Nat.reduceAdd,reduceCtorEq,Int.reduceToNat,Nat.reduceMul,Nat.reduceLT,Int.reduceNeg,Int.reduceLE,Int.reduceLT,Int.reduceEq,Nat.reduceLeDiff,List.drop,List.take,aO,aT,cD,cj,c1,c2,c3,c4,bw,dV]
   ·simp only[f141,ae,ag,aa,Nat.reduceEqDiff,Nat.reduceAdd,reduceCtorEq,Int.reduceToNat,Nat.reduceMul,Nat.reduceLT,Int.reduceNeg,Int.reduceLE,Int.reduceLT,Int.reduceEq,Nat.reduceLeDiff,List.drop,List.take,aO,aT,cD,cj,c1,c2,c3,bw,cB,dV]
  ·simp only[f141,ae,ag,aa,Nat.reduceEqDiff,Nat.reduceAdd,reduceCtorEq,Int.reduceToNat,Nat.reduceMul,Nat.reduceLT,Int.reduceNeg,Int.reduceLE,Int.reduceLT,Int.reduceEq,Nat.reduceLeDiff,List.drop,List.take,aO,aT,cD,cj,c1,c2,bw,cB,dV]
 ·simp only[f141,ae,ag,aa,Nat.reduceEqDiff,Nat.reduceAdd,reduceCtorEq,Int.reduceToNat,Nat.reduceMul,Nat.reduceLT,Int.reduceNeg,Int.reduceLE,Int.reduceLT,Int.reduceEq,Nat.reduceLeDiff,List.drop,List.take,aO,aT,cD,cj,c1,cB]
def sG(x y:Int):Int:=IntKind.u64.wrap (x-y)
def QA(x y:Int):Bool:=decide (y<=x)
def nO(a b:jC):Option jC:=ji sG QA a b
theorem E7(a b:jC):nO a b=if pJ b a=true then some ⟨sG a.a b.a,sG a.b b.b,sG a.c b.c,sG a.d b.d⟩else none:=by
 unfold nO ji QA pJ;by_cases c1:b.a<=a.a <;>by_cases c2:b.b<=a.b <;>by_cases c3:b.c<=a.c <;>by_cases c4:b.d<=a.d <;>simp[c1,c2,c3,c4]
theorem Bl{T:cL}(JW:Std T 142 f142)(Ar:Std T 141 f141)(a b:jC):ba T 142 [cD a,cD b] (jL (nO a b)):=by
 refine gives JW rfl ?_;have k:=DD Ar b a;simp only[cD,cj]at k;rw[E7];cases hf:pJ b a
 ·rw[hf]at k;simp only[f142,ae,ag,aa,Nat.reduceEqDiff,Nat.reduceAdd,reduceCtorEq,Int.reduceToNat,Nat.reduceMul,Nat.reduceLT,Int.reduceNeg,Int.reduceLE,Int.reduceLT,Int.reduceEq,Nat.reduceLeDiff,List.drop,List.take,aO,aT,cD,cj,k.call,jL,cG]
 ·rw[hf]at k;simp only[f142,ae,ag,aa,Nat.reduceEqDiff,Nat.reduceAdd,reduceCtorEq,Int.reduceToNat,Nat.reduceMul,Nat.reduceLT,Int.reduceNeg,Int.reduceLE,Int.reduceLT,Int.reduceEq,Nat.reduceLeDiff,List.drop,List.take,aO,aT,cD,cj,k.call,jL,sG]
/-! ### vec's own SE -/
theorem CZ{T:cL}(F2:Std T 258 f258)(yT:Std T 261 f261)(yS:Std T 259 f259)(a b:jC):ba T 258 [cD a,cD b] (hJ (nO a b)):=by
 refine gives F2 rfl ?_;have k:=Dn yT (n:=259) sG QA a b (tF yS _ _) (tF yS _ _) (tF yS _ _) (tF yS _ _);simp only[cD,cj]at k;have e:ji sG QA a b=nO a b:=rfl;rw[e]at k;cases ho:nO a b with
 |none =>
  rw[ho]at k;simp only[hJ,cD,cj,cG,cf]at k;simp only[f258,ae,ag,aa,Nat.reduceEqDiff,Nat.reduceAdd,reduceCtorEq,Int.reduceToNat,Nat.reduceMul,Nat.reduceLT,Int.reduceNeg,Int.reduceLE,Int.reduceLT,Int.reduceEq,Nat.reduceLeDiff,List.drop,List.take,aO,aT,cD,cj,k.call,hJ,cG,cf]
 |some v =>
  rw[ho]at k;simp only[hJ,cD,cj]at k;simp only[f258,ae,ag,aa,Nat.reduceEqDiff,Nat.reduceAdd,reduceCtorEq,Int.reduceToNat,Nat.reduceMul,Nat.reduceLT,Int.reduceNeg,Int.reduceLE,Int.reduceLT,Int.reduceEq,Nat.reduceLeDiff,List.drop,List.take,aO,aT,cD,cj,k.call,hJ]
def sx(args:List AV)(hp:Hl)(nx:Nat):Option (AV×Hl×Nat) :=
 match args with
 |[.pv (.int .u64 x),.pv (.int .u64 y)]=>if 0<=x/\x<=18446744073709551615/\0<=y/\y<=18446744073709551615 then some (.pv (.tuple [.int .u64 ((x+y) % 18446744073709551616),.bool (gm x y)]),hp,nx)else none
 |_=>none
theorem add1P_raw{E:Env}{n:Nat}(pV:Ed E n)
    (h1:∀(x y:Nat) (w:World),Calls E.P (E.ρ n) #[.int .u64 (x:Int),.int .u64 (y:Int)] w fun e w'=>e=.returned (.tuple #[.int .u64 (((x+y) % 18446744073709551616:Nat):Int),.bool (decide (((x+y)/18446744073709551616:Nat)=0))])/\w'=w)
    (args:List AV) (hp:Hl) (nx:Nat) (v:AV) (hp':Hl) (cE:Nat) (h:sx args hp nx=some (v,hp',cE)):kl E n args hp nx v hp' cE:=by
 refine⟨pV,fun X M F a w vs hX R hv=>?_⟩;subst hX;unfold sx at h;split at h
 ·rename_i x y;split at h
  ·rename_i hc;simp only[ai,b9]at h;obtain⟨rfl,rfl,rfl⟩:=h;simp only[ee,VA,VP]at hv;obtain⟨_,_,rfl,rfl,_,_,rfl,rfl,rfl⟩:=hv;obtain⟨m,rfl⟩:∃m:Nat,x=m:=⟨x.toNat,by omega⟩;obtain⟨k,rfl⟩:∃k:Nat,y=k:=⟨y.toNat,by omega⟩;refine(h1 m k w).mono fun e w' hh=>?_;obtain⟨rfl,rfl⟩:=hh;refine⟨_,M,rfl,R,?_⟩;simp only[VA,VP,VPs];refine⟨_,rfl,_,_,rfl,?_,_,_,rfl,?_,rfl⟩
   ·rw[show(((m+k) % 18446744073709551616:Nat):Int)=((m:Int)+(k:Int)) % 18446744073709551616 by omega]
   ·have:(decide ((m+k)/18446744073709551616=0))=gm (m:Int) (k:Int):=by
     simp only[gm];rw[decide_eq_decide];omega
    rw[this]
  ·simp at h
 ·simp at h
theorem tl{T:cL}{n:Nat}(S:xF T n sx)(x y:Int)(hx:Cg x)(hy:Cg y):ba T n [.int .u64 x,.int .u64 y] (.tuple [.int .u64 ((x+y) % 18446744073709551616),.bool (gm x y)]):=by
 refine⟨S.raw,S.own,none,?_⟩;have:sx (dK [.int .u64 x,.int .u64 y]) [] 0=some (.pv (.tuple [.int .u64 ((x+y) % 18446744073709551616),.bool (gm x y)]),[],0):=by
  simp only[dK,sx];rw[aW ⟨hx.1,hx.2,hy.1,hy.2⟩]
 unfold dq;rw[im S.fP this];simp only[dD,dF,eZ]
def KE(x y:Int):Int:=(x+y) % 18446744073709551616
theorem Gr(a b:jC)(ha:a.wf)(hb:b.wf):ji KE gm a b=pQ a b:=by
 obtain⟨⟨p1,_⟩,⟨p2,_⟩,⟨p3,_⟩,⟨p4,_⟩⟩:=ha;obtain⟨⟨q1,_⟩,⟨q2,_⟩,⟨q3,_⟩,⟨q4,_⟩⟩:=hb;have key:∀x y:Int,0<=x->0<=y->gm x y=true->KE x y=Bm x y:=by
  intro x y h1 h2 h3;simp only[Bm,h3,gP,KE];simp only[gm,bO]at h3;omega
 unfold pQ ji;cases c1:gm a.a b.a
 ·simp
 ·cases c2:gm a.b b.b
  ·simp
  ·cases c3:gm a.c b.c
   ·simp
   ·cases c4:gm a.d b.d
    ·simp
    ·simp only[bA,key _ _ p1 q1 c1,key _ _ p2 q2 c2,key _ _ p3 q3 c3,key _ _ p4 q4 c4]
theorem Mc{T:cL}(Ms:Std T 255 f255)(yT:Std T 261 f261)(S:xF T 256 sx)(a b:jC)(ha:a.wf)(hb:b.wf):ba T 255 [cD a,cD b] (hJ (pQ a b)):=by
 refine gives Ms rfl ?_;have hA:=ha;have hB:=hb;obtain⟨x1,x2,x3,x4⟩:=ha;obtain⟨y1,y2,y3,y4⟩:=hb;have k:=Dn yT (n:=256) KE gm a b (tl S _ _ x1 y1) (tl S _ _ x2 y2) (tl S _ _ x3 y3) (tl S _ _ x4 y4);simp only[cD,cj]at k;rw[Gr a b hA hB]at k;cases ho:pQ a b with
 |none =>
  rw[ho]at k;simp only[hJ,cD,cj,cG,cf]at k;simp only[f255,ae,ag,aa,Nat.reduceEqDiff,Nat.reduceAdd,reduceCtorEq,Int.reduceToNat,Nat.reduceMul,Nat.reduceLT,Int.reduceNeg,Int.reduceLE,Int.reduceLT,Int.reduceEq,Nat.reduceLeDiff,List.drop,List.take,aO,aT,cD,cj,k.call,hJ,cG,cf]
 |some v =>
  rw[ho]at k;simp only[hJ,cD,cj]at k;simp only[f255,ae,ag,aa,Nat.reduceEqDiff,Nat.reduceAdd,reduceCtorEq,Int.reduceToNat,Nat.reduceMul,Nat.reduceLT,Int.reduceNeg,Int.reduceLE,Int.reduceLT,Int.reduceEq,Nat.reduceLeDiff,List.drop,List.take,aO,aT,cD,cj,k.call,hJ]
end
theorem De{a b v:jC}(ha:a.wf)(hb:b.wf)(h:pQ a b=some v):v.wf:=by
 obtain⟨⟨p1,_⟩,⟨p2,_⟩,⟨p3,_⟩,⟨p4,_⟩⟩:=ha;obtain⟨⟨q1,_⟩,⟨q2,_⟩,⟨q3,_⟩,⟨q4,_⟩⟩:=hb;have key:∀x y:Int,0<=x->0<=y->Cg (Bm x y):=by
  intro x y h1 h2;unfold Bm;cases hs:gm x y
  ·exact⟨by simp,by simp⟩
  ·simp only[gm,bO]at hs;simp only[gP];exact⟨by omega,by omega⟩
 unfold pQ ji at h;split at h
 ·split at h
  ·split at h
   ·split at h
    ·simp only[ai]at h;subst h;exact⟨key _ _ p1 q1,key _ _ p2 q2,key _ _ p3 q3,key _ _ p4 q4⟩
    ·simp at h
   ·simp at h
  ·simp at h
 ·simp at h
def gK(acc:jC):List jC->Option jC
 |[]=>some acc
 |v::r=>match pQ acc v with
  |some n=>gK n r
  |none=>none
structure Jl(T:cL):Prop where
 Ms:Std T 255 f255
 yT:Std T 261 f261
 Rx:xF T 256 sx
 Rz:Std T 260 f260
theorem IA{T:cL}(S:Jl T)(l:List jC)(hl:l.length<=2^30)(MT:∀v∈l,v.wf)(Q:Exit->St->Prop)(o:Option jC)
    (bS:∀v,o=some v->∀fr hp nx,look fr 2=.ptr 0 0 0->look fr 4=.ptr 1 0 0->ah hp 0=.var (dK (cj cG))->ah hp 1=.var (dK (cj v))->Q (.exit 0) ⟨fr,hp,nx⟩)
    (dI:o=none->∀fr hp nx,look fr 2=.ptr 0 0 0->look fr 3=.pv (cf 8)->ah hp 0=.var (dK (cj cG))->Q .ret ⟨fr,hp,nx⟩) :
    ∀(rest:List jC) (i:Nat) (acc:jC),l.drop i=rest->i<=l.length->acc.wf->gK acc rest=o->∀(fr:List (Nat×AV)) (hp:Hl) (nx:Nat),2<=nx->look fr 2=.ptr 0 0 0->look fr 4=.ptr 1 0 0 ->
     ah hp 0=.var (dK (cj cG))->ah hp 1=.var (dK (cj acc))->look fr 9=.pv (.slice (l.map cj))->look fr 10=.pv (.int .i64 l.length)->look fr 11=.pv (.int .i64 i)->Wp T false (.loop yI) ⟨fr,hp,nx⟩ Q:=by
 intro rest;induction rest with
 |nil =>
  intro i acc hd hi ha ho fr hp nx hn h2 h4 b0 b1 h9 h10 h11;have hlen:=drop_nil hd hi;rw[ay,aY yI.eq_1];simp only[rM',aa,simprocAttr,h9,h10,h11,hlen,aR];refine bS acc ho.symm _ _ _ ?_ ?_ b0 b1
  all_goals simp only[bG,Nat.reduceEqDiff,aI,h2,h4]
 |cons v r ih =>
  intro i acc hd hi ha ho fr hp nx hn h2 h4 b0 b1 h9 h10 h11;obtain⟨aK,hlt,hw,di,cS,hb⟩:=drop_cons hd hl;have n0:¬nx=0:=by omega
  have n1:¬nx=1:=by omega
  have hv:v.wf:=MT v (M8.2 ⟨i,aK⟩);have k:=Mc S.Ms S.yT S.Rx acc v ha hv;have Jv:=b0;have rB:=b1;simp only[cj,cG,dK]at Jv rB;simp only[cD,cj]at k;simp only[gK]at ho;rw[ay,aY yI.eq_1];cases hs:pQ acc v with
  |none =>
   rw[hs]at k ho;simp only[hJ,cD,cj,cG,cf]at k;simp only[rM',aa,simprocAttr,h2,h4,Jv,rB,h9,h10,h11,hlt,aK,cj,n0,n1,k.call];refine dI ho.symm _ _ _ ?_ ?_ ?_
   all_goals simp only[bG,aF,Nat.reduceEqDiff,bA,aI,h2,cf,cj,cG,dK]
  |some n =>
   rw[hs]at k ho;simp only[hJ,cD,cj]at k;simp only[rM',aa,simprocAttr,h2,h4,Jv,rB,h9,h10,h11,hlt,aK,cj,n0,n1,k.call,hw];refine ih (i+1) n di cS (De ha hv hs) ho _ _ _ (by omega) ?_ ?_ ?_ ?_ ?_ ?_ ?_
   all_goals simp only[bG,aF,Nat.reduceEqDiff,bA,aI,h2,h4,b0,n0,n1,h9,h10,cj,dK]
theorem E9:cG.wf:=by
 refine⟨⟨?_,?_⟩,⟨?_,?_⟩,⟨?_,?_⟩,⟨?_,?_⟩⟩ <;>decide
theorem Nj{T:cL}(S:Jl T)(l:List jC)(hl:l.length<=2^30)(MT:∀v∈l,v.wf):ba T 260 [.slice (l.map cj)] (hJ (gK cG l)):=by
 refine gives S.Rz rfl ?_;simp only[f260,rM',aa,simprocAttr];refine IA S l hl MT _ (gK cG l) (fun v ho fr hp nx g2 g4 c0 c1=>?_) (fun ho fr hp nx g2 g3 c0=>?_) l 0 cG rfl (aN _) E9 rfl _ _ _ (ax _) rfl rfl rfl rfl rfl rfl rfl
 ·simp only[cj,cG,dK]at c0 c1;simp only[ho];simp only[rM',aa,simprocAttr,hJ,g2,g4,c0,c1,cD,cj]
 ·simp only[cj,cG,dK]at c0;simp only[ho];simp only[rM',aa,simprocAttr,hJ,g2,g3,c0,cD,cj,cG]
theorem FR{T:cL}(yR:Std T 140 f140)(qN:Std T 145 f145)(oB:Std T 144 f144)(l:List jC)(hl:l.length<=2^30)(MT:∀v∈l,v.wf)(Q:Exit->St->Prop)(o:Option jC)
    (bS:∀fr hp nx,look fr 2=.ptr 0 0 0->look fr 4=.ptr 1 0 0->look fr 5=.pv (.bool o.isSome)->ah hp 0=.var (dK (cj cG))->ah hp 1=.var (dK (cj (o.getD cG)))->Q (.exit 0) ⟨fr,hp,nx⟩) :
    ∀(rest:List jC) (i:Nat) (acc:jC),l.drop i=rest->i<=l.length->acc.wf->gK acc rest=o->∀(fr:List (Nat×AV)) (hp:Hl) (nx:Nat),look fr 0=.pv (.slice (l.map cj))->look fr 2=.ptr 0 0 0->look fr 4=.ptr 1 0 0->look fr 5=.pv (.bool true) ->
     ah hp 0=.var (dK (cj cG))->ah hp 1=.var (dK (cj acc))->look fr 6=.pv (.int .i64 i)->Wp T false (.loop uf) ⟨fr,hp,nx⟩ Q:=by
 intro rest;induction rest with
 |nil =>
  intro i acc hd hi ha ho fr hp nx h0 h2 h4 h5 b0 b1 h6;have hlen:=drop_nil hd hi;simp only[gK]at ho;subst ho;rw[ay,aY uf.eq_1];simp only[rM',aa,simprocAttr,h0,h5,h6,hlen,aR];refine bS _ _ _ ?_ ?_ ?_ b0 b1
  all_goals simp only[bG,Nat.reduceEqDiff,aI,h2,h4,h5,Option.isSome_some]
 |cons v r ih =>
  intro i acc hd hi ha ho fr hp nx h0 h2 h4 h5 b0 b1 h6;obtain⟨aK,hlt,hw,di,cS,hb⟩:=drop_cons hd hl;have hv:v.wf:=MT v (M8.2 ⟨i,aK⟩);have k:=Gq yR qN oB acc v ha hv;have Jv:=b0;have rB:=b1;simp only[cj,cG,dK]at Jv rB;simp only[cD,cj]at k;simp only[gK]at ho;rw[ay,aY uf.eq_1];simp only[rM',aa,simprocAttr,h0,h5,h6,hlt];refine(eg rfl).2 ?_;cases hs:pQ acc v with
  |none =>
   rw[hs]at k ho;simp only[jL,cD,cj,cG]at k;subst ho;have hz:l.length=i+1\/((i+1:Nat):Int)<(l.length:Int):=by omega
   simp only[rM',aa,simprocAttr,h0,h2,h4,h5,Jv,rB,h6,aK,cj,k.cn,hw];rw[ay,aY uf.eq_1];rcases hz with hz|hz
   ·have Bx:¬((i+1:Nat):Int)<(l.length:Int):=by omega
    simp only[rM',aa,simprocAttr,h0,Bx];refine bS _ _ _ ?_ ?_ ?_ ?_ ?_
    all_goals simp only[bG,aF,Nat.reduceEqDiff,bA,aI,h2,h4,b0,Option.isSome_none,fe,cj,cG,dK]
   ·simp only[rM',aa,simprocAttr,h0,hz];refine bS _ _ _ ?_ ?_ ?_ ?_ ?_
    all_goals simp only[bG,aF,Nat.reduceEqDiff,bA,aI,h2,h4,b0,Option.isSome_none,fe,cj,cG,dK]
  |some n =>
   rw[hs]at k ho;simp only[jL,cD,cj]at k;simp only[rM',aa,simprocAttr,h0,h2,h4,h5,Jv,rB,h6,aK,cj,k.cn,hw];refine ih (i+1) n di cS (De ha hv hs) ho _ _ _ ?_ ?_ ?_ ?_ ?_ ?_ ?_
   all_goals simp only[bG,aF,Nat.reduceEqDiff,bA,aI,h0,h2,h4,b0,cj,dK]
theorem L8{T:cL}(Hd:Std T 143 f143)(yR:Std T 140 f140)(qN:Std T 145 f145)(oB:Std T 144 f144)(l:List jC)(hl:l.length<=2^30)(MT:∀v∈l,v.wf):ba T 143 [.slice (l.map cj)] (jL (gK cG l)):=by
 refine gives Hd rfl ?_;simp only[f143,rM',aa,simprocAttr];refine FR yR qN oB l hl MT _ (gK cG l) (fun fr hp nx g2 g4 g5 c0 c1=>?_) l 0 cG rfl (aN _) E9 rfl _ _ _ rfl rfl rfl rfl rfl rfl rfl;cases ho:gK cG l with
 |none =>
  rw[ho]at g5 c1;simp only[cj,cG,dK,fe,Option.isSome_none]at c0 c1 g5;simp only[rM',aa,simprocAttr,jL,g2,g4,g5,c0,c1,cD,cj,cG]
 |some v =>
  rw[ho]at g5 c1;simp only[cj,cG,dK,ia,Option.isSome_some]at c0 c1 g5;simp only[rM',aa,simprocAttr,jL,g2,g4,g5,c0,c1,cD,cj]
section
def zV(args:List AV)(hp:Hl)(nx:Nat):Option (AV×Hl×Nat) :=
 match args with
 |[.pv .dJ,.iface 3 (.ptr k 0 0)]=>some (.pv (.bool false),hp,nx)
 |[.pv (.iface 0 (.int .i64 n)),.iface 3 (.ptr k 0 0)]=>match ah hp k with
  | .var [.pv (.int .i64 _)]=>some (.pv (.bool true),(k,.var [.pv (.int .i64 n)])::hp,nx)
  |_=>none
 |[.pv (.iface 1 (.gQ [.int .i64 _,.int .i64 n] 0)),.iface 3 (.ptr k 0 0)]=>match ah hp k with
  | .var [.pv (.int .i64 _)]=>some (.pv (.bool true),(k,.var [.pv (.int .i64 n)])::hp,nx)
  |_=>none
 |_=>none
theorem Rel.Ng{X:Ctx}{M:Nat->Nat}{F:Fr}{hp:Hl}{nx:Nat}{a:Act}{w:World}(R:Rel X M F (ah hp) (fun i=>i<nx) a w){k:Nat}{o n:Int}(hb:ah hp k=.var [.pv (.int .i64 o)]) :
    Rel X M F (ah ((k,.var [.pv (.int .i64 n)])::hp)) (fun i=>i<nx) a (w.setCell ⟨M k,0,none⟩ (.int .i64 n)):=by
 have hB:=R.blk k;rw[hb]at hB;obtain⟨c,t,h1,h2,h3⟩:=hB;simp only[aB]at h1;have lK:c.size=1:=by simpa using h2
 rw[setCell_eq h1];have e:ah ((k,.var [.pv (.int .i64 n)])::hp)=wr (ah hp) [(k,.var [.pv (.int .i64 n)])]:=by
  funext i;rw[<-kZ];rfl
 rw[e];have hlt:M k<w.heap.size:=(ck.1 h1).1;refine R.write _ _ k (by rw[hb];simp) (by simp) (by rw[hb];rfl) ?_ ?_
 ·simp only[World.shape?];rw[dC _ hlt,h1];simp
 ·refine⟨_,t,dC _ hlt,by simp[lK],?_⟩;simp only[mU,and_true];refine⟨.int .i64 n,?_,by simp[cN],by simp only[VA,VP]⟩;simp only[World.cell?,aB];rw[dC _ hlt];simp[lK]
theorem asP_raw{E:Env}{n:Nat}{g:Nat×Value}(pV:Ed E n)(hg:g∈E.gl)
    (h1:∀(t:Value) (w:World),Calls E.P (E.ρ n) #[.nilIface,t] w fun e w'=>e=.returned (.bool false)/\w'=w)
    (h2:∀(t:Addr) (old:Value) (w:World) (m:Int),w.cell? ⟨g.1,0,none⟩=some g.2->w.cell? t=some old->w.frozen? t=false ->
     Calls E.P (E.ρ n) #[.iface (E.τ 0) (.int .i64 m),.iface (E.τ 3) (.pointer (some t))] w fun e w'=>e=.returned (.bool true)/\∃w1,Go.RowKit.Below w.heap.size w w1/\w'=w1.setCell t (.int .i64 m))
    (h3:∀(t:Addr) (old:Value) (w:World) (b o:Nat) (a m:Int),w.cell? ⟨b,o,none⟩=some (.int .i64 a)->w.cell? ⟨b,o+1,none⟩=some (.int .i64 m)->w.cell? ⟨g.1,0,none⟩=some g.2->w.cell? t=some old->w.frozen? t=false ->
     Calls E.P (E.ρ n) #[.iface (E.τ 1) (.pointer (some ⟨b,o,none⟩)),.iface (E.τ 3) (.pointer (some t))] w fun e w'=>e=.returned (.bool true)/\∃w1,Go.RowKit.Below w.heap.size w w1/\w'=w1.setCell t (.int .i64 m))
    (args:List AV) (hp:Hl) (nx:Nat) (v:AV) (hp':Hl) (cE:Nat) (h:zV args hp nx=some (v,hp',cE)):kl E n args hp nx v hp' cE:=by
 refine⟨pV,fun X M F a w vs hX R hv=>?_⟩;subst hX;have hc:=(R.inv g hg).2;have fin:∀{k:Nat} {o m:Int},ah hp k=.var [.pv (.int .i64 o)]->v=.pv (.bool true)->hp'=(k,.var [.pv (.int .i64 m)])::hp->cE=nx->∀{e:Ending} {w':World},(e=.returned (.bool true)/\∃w1,Go.RowKit.Below w.heap.size w w1/\w'=w1.setCell ⟨M k,0,none⟩ (.int .i64 m)) ->
                                                                              ∃u M',e=.returned u/\Rel X M' F (ah hp') (fun i=>i<cE) a w'/\VA (aB X w' (fun i=>i<cE) M' (ah hp')) v u:=by
  rintro k o m hb rfl rfl rfl e w' ⟨rfl,w1,RK,rfl⟩
  exact⟨_,M,rfl,(R.grown (AN RK)).Ng hb,by simp only[VA,VP]⟩
 have SF:∀{k:Nat} {o:Int} {u:Value},ah hp k=.var [.pv (.int .i64 o)]->VA (aB X w (fun i=>i<nx) M (ah hp)) (.ptr k 0 0) u ->
     u=.pointer (some ⟨M k,0,none⟩)/\(∃old,w.cell? ⟨M k,0,none⟩=some old)/\w.frozen? ⟨M k,0,none⟩=false:=by
  intro k o u hb hu;simp only[VA,aB]at hu;obtain⟨_,_,hu⟩:=hu;have e:=hu (0,0) (by rw[hb];rfl);have hB:=R.blk k;rw[hb]at hB;obtain⟨c,t,q1,q2,q3⟩:=hB;simp only[aB]at q1;have lK:c.size=1:=by simpa using q2
  simp only[mU,and_true]at q3;obtain⟨x,q4,_,_⟩:=q3;refine⟨by simpa using e,⟨x,q4⟩,?_⟩;simp only[World.frozen?,q1];simp
 unfold zV at h;split at h
 ·rename_i k;simp only[ai,b9]at h;obtain⟨rfl,rfl,rfl⟩:=h;simp only[ee,VA,VP]at hv;obtain⟨_,_,rfl,rfl,u,_,rfl,_,rfl⟩:=hv;refine(h1 u w).mono fun e w' ⟨he,hw⟩=>?_;subst he hw;exact⟨_,M,rfl,R,by simp only[VA,VP]⟩
 ·rename_i m k;split at h
  ·rename_i o hb;simp only[ai,b9]at h;obtain⟨rfl,rfl,rfl⟩:=h;simp only[ee]at hv;obtain⟨u1,_,rfl,Pp,u2,_,rfl,Pq,rfl⟩:=hv;simp only[VA,VP]at Pp;obtain⟨_,rfl,rfl⟩:=Pp;rw[VA]at Pq;obtain⟨u3,rfl,Sc⟩:=Pq;obtain⟨rfl,⟨old,c1⟩,c2⟩:=SF hb Sc;exact(h2 ⟨M k,0,none⟩ old w m hc c1 c2).mono fun e w' hh=>fin hb rfl rfl rfl hh
  ·simp at h
 ·rename_i a' m k;split at h
  ·rename_i o hb;simp only[ai,b9]at h;obtain⟨rfl,rfl,rfl⟩:=h;simp only[ee]at hv;obtain⟨u1,_,rfl,Pp,u2,_,rfl,Pq,rfl⟩:=hv;simp only[VA,VP,iz]at Pp;obtain⟨_,rfl,b,o',rfl,_,⟨_,d1,_,rfl⟩,⟨_,d2,_,rfl⟩,_⟩:=Pp;rw[VA]at Pq;obtain⟨u3,rfl,Sc⟩:=Pq;obtain⟨rfl,⟨old,c1⟩,c2⟩:=SF hb Sc;exact(h3 ⟨M k,0,none⟩ old w b o' a' m d1 d2 hc c1 c2).mono fun e w' hh=>fin hb rfl rfl rfl hh
  ·simp at h
 ·simp at h
structure vU(T:cL)(n:Nat):Prop where
 fP:∃P,T.fP n=some P/\∀args hp nx r,zV args hp nx=some r->P args hp nx=some r
 raw:T.raw n=true
theorem PY{T:cL}{n:Nat}(h1:T.fP n=some zV)(h2:T.raw n=true):vU T n:=⟨⟨_,h1,fun _ _ _ _ h=>h⟩,h2⟩
theorem vU.d{T:cL}{n:Nat}(S:vU T n){args:List AV}{hp hp':Hl}{nx cE:Nat}{v:AV}(h:zV args hp nx=some (v,hp',cE)):D T n args hp nx=some (v,hp',cE):=by
 obtain⟨P,h1,h2⟩:=S.fP;exact im h1 (h2 _ _ _ _ h)
section
variable{T:cL}{n:Nat}(S:vU T n)
include S
theorem tn{k:Nat}{d:Option Nat}{l:List aV}{st:St}{K:St->Prop} :
    iN T n [.pv .dJ,.iface 3 (.ptr k 0 0)] d l st K↔tM T l ⟨dt st d (.pv (.bool false)),st.hp,st.nx⟩ K:=by
 have h:zV [.pv .dJ,.iface 3 (.ptr k 0 0)] st.hp st.nx=some (.pv (.bool false),st.hp,st.nx):=by simp only[zV]
 unfold iN eM;simp only[S.raw,S.d h,ai];constructor
 ·rintro⟨bV,rfl,h⟩;exact h
 ·exact fun h=>⟨_,rfl,h⟩
theorem o9{k:Nat}{o m:Int}{d:Option Nat}{l:List aV}{st:St}{K:St->Prop}(hb:ah st.hp k=.var [.pv (.int .i64 o)]) :
    iN T n [.pv (.iface 0 (.int .i64 m)),.iface 3 (.ptr k 0 0)] d l st K↔tM T l ⟨dt st d (.pv (.bool true)),(k,.var [.pv (.int .i64 m)])::st.hp,st.nx⟩ K:=by
 have h:zV [.pv (.iface 0 (.int .i64 m)),.iface 3 (.ptr k 0 0)] st.hp st.nx=some (.pv (.bool true),(k,.var [.pv (.int .i64 m)])::st.hp,st.nx):=by simp only[zV,hb]
 unfold iN eM;simp only[S.raw,S.d h,ai];constructor
 ·rintro⟨bV,rfl,h⟩;exact h
 ·exact fun h=>⟨_,rfl,h⟩
theorem Gz{k:Nat}{o a m:Int}{d:Option Nat}{l:List aV}{st:St}{K:St->Prop}(hb:ah st.hp k=.var [.pv (.int .i64 o)]) :
    iN T n [.pv (.iface 1 (.gQ [.int .i64 a,.int .i64 m] 0)),.iface 3 (.ptr k 0 0)] d l st K↔tM T l ⟨dt st d (.pv (.bool true)),(k,.var [.pv (.int .i64 m)])::st.hp,st.nx⟩ K:=by
 have h:zV [.pv (.iface 1 (.gQ [.int .i64 a,.int .i64 m] 0)),.iface 3 (.ptr k 0 0)] st.hp st.nx=some (.pv (.bool true),(k,.var [.pv (.int .i64 m)])::st.hp,st.nx):=by simp only[zV,hb]
 unfold iN eM;simp only[S.raw,S.d h,ai];constructor
 ·rintro⟨bV,rfl,h⟩;exact h
 ·exact fun h=>⟨_,rfl,h⟩
end
end
section
section
variable{T:cL}
/-! ### Code,of T3 -/
theorem EF(c:Int)(Q:Exit->St->Prop)(dI:∀fr hp nx,look fr 2=.pv (.int .i64 c)->Q .ret ⟨fr,hp,nx⟩) :
    ∀(k:Nat) (i:Int),c=i+k->1<=i->c<=17->∀(fr:List (Nat×AV)) (hp:Hl) (nx:Nat),look fr 0=.pv (.iface 0 (.int .i64 c))->look fr 3=.pv (.int .i64 i)->Wp T false (.loop xX) ⟨fr,hp,nx⟩ Q:=by
 intro k;induction k with
 |zero =>
  intro i hi h1 h2 fr hp nx g0 g3;have cS:i=c:=by omega
  subst cS;rw[ay,aY xX.eq_1];simp only[rM',aa,simprocAttr,g0,g3,h2];exact dI _ _ _ (by simp only[bG,Nat.reduceEqDiff,bA,aI])
 |succ k ih =>
  intro i hi h1 h2 fr hp nx g0 g3;have ew:¬c=i:=by omega
  have hle:i<=17:=by omega
  have hw:IntKind.i64.wrap (i+1)=i+1:=by rw[f9] <;>omega
  rw[ay,aY xX.eq_1];simp only[rM',aa,simprocAttr,g0,g3,hle,ew,hw];refine ih (i+1) (by omega) (by omega) h2 _ _ _ ?_ ?_
  all_goals simp only[bG,Nat.reduceEqDiff,bA,aI,g0]
theorem EE(yQ:Std T 102 f102)(c:Int)(h1:1<=c)(h2:c<=17):ba T 102 [cf c] (.int .i64 c):=by
 refine gives yQ rfl ?_;simp only[f102,rM',aa,simprocAttr,cf];refine EF c _ (fun fr hp nx g=>?_) (c-1).toNat 1 (by omega) (by omega) h2 _ _ _ rfl rfl;simp only[rM',aa,simprocAttr,g]
/-! ### The uc search for a node -/
def iK(id:Int):Nat->List Node->Int
 |_,[]=> -1
 |i,p::r=>if p.id=id then i else iK id (i+1) r
theorem ig(id:Int):∀(l:List Node) (i:Nat),(dv id l=none/\iK id i l= -1)\/∃j p,l[j]? =some p/\dv id l=some p/\iK id i l=((i+j:Nat):Int)
 |[],i=>.inl ⟨rfl,rfl⟩
 |p::r,i=>by
  by_cases hp:p.id=id
  ·exact .inr ⟨0,p,rfl,by simp[dv,hp],by simp[iK,hp]⟩
  ·rcases ig id r (i+1)with⟨h1,h2⟩|⟨j,q,h1,h2,h3⟩
   ·exact .inl ⟨by simpa[dv,hp]using h1,by simp[iK,hp,h2]⟩
   ·refine .inr ⟨j+1,q,by simpa using h1,by simpa[dv,hp]using h2,?_⟩;simp only[iK,aw hp,h3];omega
theorem CE(s:bc)(id:Int)(hl:s.nodes.length<=2^30)(Q:Exit->St->Prop)(o:Int)
    (bS:o= -1->∀fr hp nx,Q (.exit 0) ⟨fr,hp,nx⟩) (dI:∀fr hp nx,look fr 4=.pv (.int .i64 o)->Q .ret ⟨fr,hp,nx⟩) :
    ∀(rest:List Node) (i:Nat),s.nodes.drop i=rest->i<=s.nodes.length->iK id i rest=o->∀(fr:List (Nat×AV)) (hp:Hl) (nx:Nat),look fr 5=.pv (.int .i64 i)->look fr 1=.pv (.int .i64 id)->look fr 2=.ptr 0 0 0 ->
     ah hp 0=.var [.pv (.slice (s.nodes.map bB)),.pv (.slice (s.aU.map bN)),.pv (.slice (s.pods.map aJ))]->Wp T false (.loop y5) ⟨fr,hp,nx⟩ Q:=by
 intro rest;induction rest with
 |nil =>
  intro i hd hi ho fr hp nx h5 h1 h2 b0;have hlen:=drop_nil hd hi;rw[ay,aY y5.eq_1];simp only[rM',aa,simprocAttr,h5,h1,h2,b0,hlen,aR];exact bS ho.symm _ _ _
 |cons n r ih =>
  intro i hd hi ho fr hp nx h5 h1 h2 b0;obtain⟨aK,hlt,hw,di,cS,hb⟩:=drop_cons hd hl;simp only[iK]at ho;rw[ay,aY y5.eq_1];by_cases hk:n.id=id
  ·rw[aW hk]at ho;simp only[rM',aa,simprocAttr,h5,h1,h2,b0,hlt,aK,bB,hk];exact dI _ _ _ (by simp only[bG,Nat.reduceEqDiff,bA,aI,<-ho])
  ·rw[aw hk]at ho;simp only[rM',aa,simprocAttr,h5,h1,h2,b0,hlt,aK,bB,hk,hw];refine ih (i+1) di cS ho _ _ _ ?_ ?_ ?_ b0
   all_goals simp only[bG,Nat.reduceEqDiff,bA,aI,h1,h2]
theorem lA(oC:Std T 155 f155)(s:bc)(id:Int)(hl:s.nodes.length<=2^30):ba T 155 [aD s,.int .i64 id] (.int .i64 (iK id 0 s.nodes)):=by
 refine gives oC rfl ?_;simp only[f155,rM',aa,simprocAttr,aD];refine CE s id hl _ (iK id 0 s.nodes) (fun ho fr hp nx=>?_) (fun fr hp nx h4=>?_) s.nodes 0 rfl (aN _) rfl _ _ _ rfl rfl rfl rfl
 ·simp only[rM',aa,simprocAttr,ho]
 ·simp only[rM',aa,simprocAttr,h4]
/-! ### What is used -/
def reqs(node:Int):List dx->List jC
 |[]=>[]
 |p::r=>if p.node=node then p.jV::reqs node r else reqs node r
theorem zk(node:Int):∀l,(reqs node l).length<=l.length
 |[]=>ax _
 |p::r=>by
  have:=zk node r;simp only[reqs,aC];split
  ·simp only[aC];omega
  ·omega
theorem zl(node:Int):∀l:List dx,(∀p∈l,p.wf)->∀v∈reqs node l,v.wf
 |[],_,v,hv=>by simp[reqs]at hv
 |p::r,h,v,hv=>by
  have ih:=zl node r (fun q hq=>h q (bf _ hq)) v;simp only[reqs]at hv;split at hv
  ·rcases aS.1 hv with rfl|hv
   ·exact(h p (bM ..)).2.2.2.1
   ·exact ih hv
  ·exact ih hv
def vG(pods:List dx)(node:Int):Option jC:=gK cG (reqs node pods)
def Ji(v:AV)(hp:Hl)(sz:Nat)(es:List (List PV))(lo nx:Nat):Prop:=(es=[]/\v=.bu)\/∃id,v=.ms id/\lo<=id/\id<nx/\ah hp id=.row sz es
theorem ID(pods:List dx)(node:Int)(hl:pods.length<=2^30)(Q:Exit->St->Prop)(gS:List jC)(MP:gS.length<=2^30)
    (bS:∀fr hp nx,look fr 4=.ptr 1 0 0->ah hp 1=.var (dK (cj cG))->Ji (look fr 6) hp 4 (gS.map cj) 2 nx->Q (.exit 0) ⟨fr,hp,nx⟩) :
    ∀(rest:List dx) (i:Nat) (acc:List jC),pods.drop i=rest->i<=pods.length->acc++reqs node rest=gS->∀(fr:List (Nat×AV)) (hp:Hl) (nx:Nat),2<=nx->look fr 4=.ptr 1 0 0->ah hp 1=.var (dK (cj cG)) ->
     look fr 1=.pv (.int .i64 node)->look fr 10=.pv (.slice (pods.map aJ))->look fr 11=.pv (.int .i64 pods.length)->look fr 12=.pv (.int .i64 i)->Ji (look fr 6) hp 4 (acc.map cj) 2 nx->Wp T false (.loop yF) ⟨fr,hp,nx⟩ Q:=by
 intro rest;induction rest with
 |nil =>
  intro i acc hd hi ho fr hp nx hn h4 b1 h1 h10 h11 kD h6;have hlen:=drop_nil hd hi;simp only[reqs,bH]at ho;subst ho;rw[ay,aY yF.eq_1];simp only[rM',aa,simprocAttr,h10,h11,kD,hlen,aR];refine bS _ _ _ ?_ b1 ?_
  all_goals simp only[bG,Nat.reduceEqDiff,aI,h4,h6]
 |cons p r ih =>
  intro i acc hd hi ho fr hp nx hn h4 b1 h1 h10 h11 kD h6;obtain⟨aK,hlt,hw,di,cS,hb⟩:=drop_cons hd hl;have n1:¬nx=1:=by omega
  simp only[reqs]at ho;rw[ay,aY yF.eq_1];by_cases hk:p.node=node
  ·rw[aW hk]at ho;have wS:(acc++[p.jV])++reqs node r=gS:=by rw[<-ho];simp
   have hlen:acc.length+1<=2^30:=by
    have:=de List.length wS;simp at this;omega
   rcases h6 with⟨he,h6⟩|⟨id,h6,i1,i2,i3⟩
   ·have C9:acc=[]:=by simpa using he
    have n0:¬nx=0:=by omega
    subst C9;simp only[rM',aa,simprocAttr,h1,h10,h11,kD,hlt,aK,aJ,n1,hk,h6,bt,dW,chunk,fT,eN,cq,bL,bW,hw,Nat.one_le_two_pow];refine ih (i+1) _ di cS wS _ _ _ ?_ ?_ ?_ ?_ ?_ ?_ ?_ (.inr ⟨nx+2,?_,?_,?_,?_⟩)
    all_goals try simp only[bG,aF,Nat.reduceEqDiff,bA,aI,h4,b1,n0,n1,h1,h10,h11,bj,aX,az,cj,aE]
    all_goals first|omega|skip
   ·have d1:¬nx+1=id:=by omega
    have d2:¬nx=id:=by omega
    have d3:¬id=1:=by omega
    have d4:¬nx+1=1:=by omega
    have d5:¬nx+1+1=1:=by omega
    have d6:¬id=nx+1+1:=by omega
    simp only[rM',aa,simprocAttr,h1,h10,h11,kD,hlt,aK,aJ,n1,hk,h6,i3,bt,dW,chunk,fT,eN,cq,bL,bW,hw,d1,d2,hlen];refine ih (i+1) _ di cS wS _ _ _ ?_ ?_ ?_ ?_ ?_ ?_ ?_ (.inr ⟨nx+1+1,?_,?_,?_,?_⟩)
    all_goals try simp only[bG,aF,Nat.reduceEqDiff,bA,aI,h4,b1,n1,d3,d4,d5,d6,h1,h10,h11,bj,aX,az,cj]
    all_goals first|omega|skip
  ·rw[aw hk]at ho;simp only[rM',aa,simprocAttr,h1,h10,h11,kD,hlt,aK,aJ,n1,hk,hw];refine ih (i+1) acc di cS ho _ _ _ (by omega) ?_ ?_ ?_ ?_ ?_ ?_ ?_
   all_goals simp only[bG,aF,Nat.reduceEqDiff,bA,aI,h4,b1,h1,h10,h11,n1]
   rcases h6 with⟨he,h6⟩|⟨id,h6,i1,i2,i3⟩
   ·exact .inl ⟨he,h6⟩
   ·have:¬nx=id:=by omega
    exact .inr ⟨id,h6,i1,by omega,by simp only[aF,this,aI,i3]⟩
theorem EV(o:Option jC):lf (hJ o)=true:=by cases o <;>rfl
theorem EU(o:Option jC):lf (jL o)=true:=by cases o <;>rfl
theorem Nm(Mp:Std T 221 f221)(S:Jl T)(hf:T.flat 260=true)(t:State)(node:Int)(hl:t.pods.length<=2^30)(hw:∀p∈t.pods,p.wf):ba T 221 [ar t,.int .i64 node] (hJ (vG t.pods node)):=by
 refine gives Mp rfl ?_;have hr:(reqs node t.pods).length<=2^30:=cQ (zk _ _) hl;have k:=Nj S (reqs node t.pods) hr (zl node t.pods hw);have e:gK cG (reqs node t.pods)=vG t.pods node:=rfl;rw[e]at k;have kf:=k.sE hf (EV _);simp only[f221,rM',aa,simprocAttr,ar];refine ID t.pods node hl _ (reqs node t.pods) hr (fun fr hp nx h4 b1 h6=>?_) t.pods 0 [] rfl (aN _) (aE _) _ _ _ (ax _) rfl rfl rfl rfl rfl rfl (.inl ⟨rfl,rfl⟩);simp only[cj,cG,dK]at b1;rcases h6 with⟨he,h6⟩|⟨id,h6,i1,i2,i3⟩
 ·rw[he]at k;cases ho:vG t.pods node <;>rw[ho]at k <;>simp only[hJ,cD,cj,cG,cf]at k <;>
  simp only[rM',aa,simprocAttr,h4,b1,h6,k.call,hJ,cD,cj,cG,cf]
 ·cases ho:vG t.pods node <;>rw[ho]at kf <;>simp only[hJ,cD,cj,cG,cf]at kf <;>
  simp only[rM',aa,simprocAttr,h4,b1,h6,i3,kf,hJ,cD,cj,cG,cf]
theorem FV(t:State)(node:Int)(hl:t.pods.length<=2^30)(Q:Exit->St->Prop)(gS:List jC)(MP:gS.length<=2^30)
    (bS:∀fr hp nx,look fr 4=.ptr 1 0 0->2<=nx->ah hp 1=.var (dK (cj cG))->Ji (look fr 6) hp 4 (gS.map cj) 2 nx->Q (.exit 0) ⟨fr,hp,nx⟩) :
    ∀(rest:List dx) (i:Nat) (acc:List jC),t.pods.drop i=rest->i<=t.pods.length->acc++reqs node rest=gS->∀(fr:List (Nat×AV)) (hp:Hl) (nx:Nat),2<=nx->look fr 4=.ptr 1 0 0->ah hp 1=.var (dK (cj cG)) ->
     look fr 1=.pv (.int .i64 node)->look fr 2=.ptr 0 0 0->ah hp 0=.var [.pv (.slice (t.pods.map aJ)),.pv (.int .i64 t.pre),.pv (.int .i64 t.eW)]->look fr 7=.pv (.int .i64 i)->Ji (look fr 6) hp 4 (acc.map cj) 2 nx->Wp T false (.loop yc) ⟨fr,hp,nx⟩ Q:=by
 intro rest;induction rest with
 |nil =>
  intro i acc hd hi ho fr hp nx hn h4 b1 h1 h2 b0 h7 h6;have hlen:=drop_nil hd hi;simp only[reqs,bH]at ho;subst ho;rw[ay,aY yc.eq_1];simp only[rM',aa,simprocAttr,h2,b0,h7,hlen,aR];refine bS _ _ _ ?_ hn b1 ?_
  all_goals simp only[bG,Nat.reduceEqDiff,aI,h4,h6]
 |cons p r ih =>
  intro i acc hd hi ho fr hp nx hn h4 b1 h1 h2 b0 h7 h6;obtain⟨aK,hlt,hw,di,cS,hb⟩:=drop_cons hd hl;have n0:¬nx=0:=by omega
  have n1:¬nx=1:=by omega
  have m0:¬nx+1=0:=by omega
  have m1:¬nx+1=1:=by omega
  simp only[reqs]at ho;rw[ay,aY yc.eq_1];by_cases hk:p.node=node
  ·rw[aW hk]at ho;have wS:(acc++[p.jV])++reqs node r=gS:=by rw[<-ho];simp
   have hlen:acc.length+1<=2^30:=by
    have:=de List.length wS;simp at this;omega
   rcases h6 with⟨he,h6⟩|⟨id,h6,i1,i2,i3⟩
   ·have C9:acc=[]:=by simpa using he
    subst C9;simp only[rM',aa,simprocAttr,h1,h2,b0,h7,hlt,aK,aJ,n0,n1,hk,h6,bt,dW,chunk,fT,eN,cq,bL,bW,hw,Nat.one_le_two_pow];refine ih (i+1) _ di cS wS _ _ _ ?_ ?_ ?_ ?_ ?_ ?_ ?_ (.inr ⟨nx+1,?_,?_,?_,?_⟩)
    all_goals try simp only[bG,aF,Nat.reduceEqDiff,bA,aI,h4,b1,n0,n1,m0,m1,h1,h2,b0,bj,aX,az,cj,aE]
    all_goals first|omega|skip
   ·have d2:¬nx=id:=by omega
    have d3:¬id=1:=by omega
    have d6:¬id=nx+1:=by omega
    have d7:¬id=0:=by omega
    simp only[rM',aa,simprocAttr,h1,h2,b0,h7,hlt,aK,aJ,n0,n1,hk,h6,i3,bt,dW,chunk,fT,eN,cq,bL,bW,hw,d2,hlen];refine ih (i+1) _ di cS wS _ _ _ ?_ ?_ ?_ ?_ ?_ ?_ ?_ (.inr ⟨nx+1,?_,?_,?_,?_⟩)
    all_goals try simp only[bG,aF,Nat.reduceEqDiff,bA,aI,h4,b1,b0,n0,n1,d3,m0,m1,d6,d7,h1,h2,bj,aX,az,cj]
    all_goals first|omega|skip
  ·rw[aw hk]at ho;simp only[rM',aa,simprocAttr,h1,h2,b0,h7,hlt,aK,aJ,n1,hk,hw];refine ih (i+1) acc di cS ho _ _ _ hn ?_ b1 ?_ ?_ b0 ?_ ?_
   all_goals simp only[bG,Nat.reduceEqDiff,bA,aI,h4,h1,h2,h6]
theorem La(Mn:Std T 171 f171)(Hd:Std T 143 f143)(yR:Std T 140 f140)(qN:Std T 145 f145)(oB:Std T 144 f144)(hf:T.flat 143=true)(t:State)(node:Int)(hl:t.pods.length<=2^30)(hw:∀p∈t.pods,p.wf):ba T 171 [ar t,.int .i64 node] (jL (vG t.pods node)):=by
 refine gives Mn rfl ?_;have hr:(reqs node t.pods).length<=2^30:=cQ (zk _ _) hl;have k:=L8 Hd yR qN oB (reqs node t.pods) hr (zl node t.pods hw);have e:gK cG (reqs node t.pods)=vG t.pods node:=rfl;rw[e]at k;have kf:=k.sE hf (EU _);simp only[f171,rM',aa,simprocAttr,ar];refine FV t node hl _ (reqs node t.pods) hr (fun fr hp nx h4 hn b1 h6=>?_) t.pods 0 [] rfl (aN _) (aE _) _ _ _ (ax _) rfl rfl rfl rfl rfl rfl (.inl ⟨rfl,rfl⟩);have n1:¬nx=1:=by omega
 simp only[cj,cG,dK]at b1;rcases h6 with⟨he,h6⟩|⟨id,h6,i1,i2,i3⟩
 ·rw[he]at k;cases ho:vG t.pods node <;>rw[ho]at k <;>simp only[jL,cD,cj,cG]at k <;>
  simp only[rM',aa,simprocAttr,h4,b1,h6,k.call,jL,cD,cj,cG,n1]
 ·cases ho:vG t.pods node <;>rw[ho]at kf <;>simp only[jL,cD,cj,cG]at kf <;>
  simp only[rM',aa,simprocAttr,h4,b1,h6,i3,kf,jL,cD,cj,cG,n1]
end
end
section
section
variable{T:cL}
def oP(s:bc)(pods:List dx)(id:Int):Int×jC:=match dv id s.nodes with
 |none=>(4,cG)
 |some n=>match vG pods id with
  |none=>(8,cG)
  |some u=>match nO n.cap n.held with
   |none=>(9,cG)
   |some f=>match nO f u with
    |none=>(9,cG)
    |some r=>(0,r)
def jG(c:Int):PV:=if c=0 then .dJ else cf c
def vo(r:Int×jC):PV:=.tuple [cD r.2,jG r.1]
def vn(r:Int×jC):PV:=.tuple [cD r.2,.int .i64 r.1]
structure Jk(T:cL):Prop where
 v:Jl T
 Kc:Std T 82 f82
 Mp:Std T 221 f221
 F2:Std T 258 f258
 yS:Std T 259 f259
 Rr:Std T 220 f220
 f260:T.flat 260=true
set_option maxRecDepth 100000 in
set_option maxHeartbeats 4000000 in
theorem L1(S:Jk T)(s:bc)(t:State)(id:Int)(hn:s.nodes.length<=2^30)(hl:t.pods.length<=2^30)(hw:∀p∈t.pods,p.wf):ba T 220 [aD s,ar t,.int .i64 id] (vo (oP s t.pods id)):=by
 refine gives S.Rr rfl ?_;have kn:=tz S.Kc s id hn;have ku:=Nm S.Mp S.v S.f260 t id hl hw;unfold oP;simp only[aD]at kn;simp only[ar]at ku;cases ho:dv id s.nodes with
 |none =>
  rw[ho]at kn;simp only[jZ,bB,mO]at kn;simp only[f220,rM',aa,simprocAttr,aD,ar,kn.call,vo,jG,cD,cj,cG,cf]
 |some n =>
  rw[ho]at kn;simp only[jZ,bB]at kn;cases hu:vG t.pods id with
  |none =>
   rw[hu]at ku;simp only[hJ,cD,cj,cG,cf]at ku;simp only[f220,rM',aa,simprocAttr,aD,ar,kn.call,ku.call,vo,jG,cD,cj,cG,cf]
  |some u =>
   rw[hu]at ku;simp only[hJ,cD,cj]at ku;have k1:=CZ S.F2 S.v.yT S.yS n.cap n.held;simp only[cD,cj]at k1;cases h1:nO n.cap n.held with
   |none =>
    rw[h1]at k1;simp only[hJ,cD,cj,cG,cf]at k1;simp only[f220,rM',aa,simprocAttr,aD,ar,kn.call,ku.call,k1.call,h1,vo,jG,cD,cj,cG,cf]
   |some f =>
    rw[h1]at k1;simp only[hJ,cD,cj]at k1;have k2:=CZ S.F2 S.v.yT S.yS f u;simp only[cD,cj]at k2;cases h2:nO f u with
    |none =>
     rw[h2]at k2;simp only[hJ,cD,cj,cG,cf]at k2;simp only[f220,rM',aa,simprocAttr,aD,ar,kn.call,ku.call,k1.call,k2.call,h1,h2,vo,jG,cD,cj,cG,cf]
    |some r =>
     rw[h2]at k2;simp only[hJ,cD,cj]at k2;simp only[f220,rM',aa,simprocAttr,aD,ar,kn.call,ku.call,k1.call,k2.call,h1,h2,vo,jG,cD,cj,cG,cf]
structure D8(T:cL):Prop where
 oC:Std T 155 f155
 Mn:Std T 171 f171
 Hd:Std T 143 f143
 yR:Std T 140 f140
 qN:Std T 145 f145
 oB:Std T 144 f144
 JW:Std T 142 f142
 Ar:Std T 141 f141
 Rh:Std T 170 f170
 f143:T.flat 143=true
set_option maxRecDepth 100000 in
set_option maxHeartbeats 4000000 in
theorem Im(S:D8 T)(s:bc)(t:State)(id:Int)(hn:s.nodes.length<=2^30)(hl:t.pods.length<=2^30)(hw:∀p∈t.pods,p.wf):ba T 170 [aD s,ar t,.int .i64 id] (vn (oP s t.pods id)):=by
 refine gives S.Rh rfl ?_;have kn:=lA S.oC s id hn;have ku:=La S.Mn S.Hd S.yR S.qN S.oB S.f143 t id hl hw;unfold oP;simp only[aD]at kn;simp only[ar]at ku;rcases ig id s.nodes 0 with⟨ho,hx⟩|⟨j,n,hj,ho,hx⟩
 ·rw[hx]at kn;simp only[f170,rM',aa,simprocAttr,aD,ar,kn.call,ho,vn,cD,cj,cG]
 ·rw[hx,aQ]at kn;have lS:¬(j:Int)<0:=by omega
  cases hu:vG t.pods id with
  |none =>
   rw[hu]at ku;simp only[jL,cD,cj,cG]at ku;simp only[f170,rM',aa,simprocAttr,aD,ar,kn.call,ho,lS,ku.call,vn,cD,cj,cG]
  |some u =>
   rw[hu]at ku;simp only[jL,cD,cj]at ku;have k1:=Bl S.JW S.Ar n.cap n.held;simp only[cD,cj]at k1;simp only[f170,rM',aa,simprocAttr,aD,ar,kn.call,ho,lS,ku.call];refine tk.2 ?_;cases h1:nO n.cap n.held with
   |none =>
    rw[h1]at k1;simp only[jL,cD,cj,cG]at k1;simp only[rM',aa,simprocAttr,hj,bB,k1.ik,h1,vn,cD,cj,cG];simp only[eA,kX,ij,iY,mem,iI,En.reads,fp,iq,gT,kW,mI,AO.tmps,fo,keys,kG,ix,cw,cp,cy,aE,aG,bH,rM',aa,simprocAttr,bw,bh];rfl
   |some f =>
    rw[h1]at k1;simp only[jL,cD,cj]at k1;have k2:=Bl S.JW S.Ar f u;simp only[cD,cj]at k2;cases h2:nO f u with
    |none =>
     rw[h2]at k2;simp only[jL,cD,cj,cG]at k2;simp only[rM',aa,simprocAttr,hj,bB,k1.ik,k2.call,h1,h2,vn,cD,cj,cG];simp only[eA,kX,ij,iY,mem,iI,En.reads,fp,iq,gT,kW,mI,AO.tmps,fo,keys,kG,ix,cw,cp,cy,aE,aG,bH,rM',aa,simprocAttr,bw,bh];rfl
    |some r =>
     rw[h2]at k2;simp only[jL,cD,cj]at k2;simp only[rM',aa,simprocAttr,hj,bB,k1.ik,k2.call,h1,h2,vn,cD,cj,cG];simp only[eA,kX,ij,iY,mem,iI,En.reads,fp,iq,gT,kW,mI,AO.tmps,fo,keys,kG,ix,cw,cp,cy,aE,aG,bH,rM',aa,simprocAttr,bw,bh];rfl
theorem oQ(s:bc)(pods:List dx)(id:Int):(oP s pods id).1=0\/((oP s pods id).1≠0/\1<=(oP s pods id).1/\(oP s pods id).1<=17):=by
 unfold oP
 repeat' split
 all_goals simp
def dS(s:bc)(pods:List dx):Nat->List Node->Option (Int×Int)
 |_,[]=>none
 |i,n::r=>if(oP s pods n.id).1=0 then dS s pods (i+1) r else some ((oP s pods n.id).1,i)
set_option maxRecDepth 100000 in
set_option maxHeartbeats 4000000 in
theorem FJ(S:Jk T)(F1:Std T 219 f219)(Aw:vU T 266)(s:bc)(t:State)(hn:s.nodes.length<=2^30)(hl:t.pods.length<=2^30)(hw:∀p∈t.pods,p.wf)(Q:Exit->St->Prop)(o:Option (Int×Int))
    (bS:o=none->∀fr hp nx,Q (.exit 0) ⟨fr,hp,nx⟩)
    (dI:∀c i,o=some (c,i)->∀fr hp nx id,look fr 4=.iface 1 (.ptr id 0 0)->ah hp id=.var [.pv (.int .i64 i),.pv (.int .i64 c)]->Q .ret ⟨fr,hp,nx⟩) :
    ∀(rest:List Node) (i:Nat),s.nodes.drop i=rest->i<=s.nodes.length->dS s t.pods i rest=o->∀(fr:List (Nat×AV)) (hp:Hl) (nx:Nat),2<=nx ->
     look fr 2=.ptr 0 0 0->ah hp 0=.var [.pv (.slice (s.nodes.map bB)),.pv (.slice (s.aU.map bN)),.pv (.slice (s.pods.map aJ))] ->
     look fr 3=.ptr 1 0 0->ah hp 1=.var [.pv (.slice (t.pods.map aJ)),.pv (.int .i64 t.pre),.pv (.int .i64 t.eW)] ->
     look fr 11=.pv (.slice (s.nodes.map bB))->look fr 12=.pv (.int .i64 s.nodes.length)->look fr 13=.pv (.int .i64 i)->Wp T false (.loop yE) ⟨fr,hp,nx⟩ Q:=by
 intro rest;induction rest with
 |nil =>
  intro i hd hi ho fr hp nx gR h2 b0 h3 b1 h11 kD ph;have hlen:=drop_nil hd hi;rw[ay,aY yE.eq_1];simp only[rM',aa,simprocAttr,h11,kD,ph,hlen,aR];exact bS ho.symm _ _ _
 |cons n r ih =>
  intro i hd hi ho fr hp nx gR h2 b0 h3 b1 h11 kD ph;obtain⟨aK,hlt,Sf,di,cS,hb⟩:=drop_cons hd hn;have n0:¬nx=0:=by omega
  have n1:¬nx=1:=by omega
  have m0:¬nx+1=0:=by omega
  have m1:¬nx+1=1:=by omega
  have k:=L1 S s t n.id hn hl hw;simp only[aD,ar,vo,cD,cj]at k;simp only[dS]at ho;rw[ay,aY yE.eq_1];rcases oQ s t.pods n.id with hc|⟨hc,_,_⟩
  ·rw[aW hc]at ho;simp only[jG,hc,bA]at k;simp only[rM',aa,simprocAttr,h2,b0,h3,b1,h11,kD,ph,hlt,aK,bB,n0,n1,k.call,tn Aw,Sf];refine ih (i+1) di cS ho _ _ _ ?_ ?_ ?_ ?_ ?_ ?_ ?_ ?_
   all_goals try simp only[bG,aF,Nat.reduceEqDiff,bA,aI,h2,b0,h3,b1,n0,n1,m0,m1,h11,kD]
   all_goals first|omega|skip
  ·rw[aw hc]at ho;simp only[jG,hc,aI,cf]at k;simp only[rM',aa,simprocAttr,h2,b0,h3,b1,h11,kD,ph,hlt,aK,bB,n0,n1,k.call];refine(o9 Aw (o:=0) ?_).2 ?_
   ·simp only[rM',aa,simprocAttr]
   ·simp only[rM',aa,simprocAttr,h2,b0,h3,b1,h11,kD,ph];refine dI _ _ ho.symm _ _ _ (nx+1+1+1) ?_ ?_
    all_goals simp only[bG,aF,Nat.reduceEqDiff,bA,aI]
theorem L3(S:Jk T)(F1:Std T 219 f219)(Aw:vU T 266)(s:bc)(t:State)(hn:s.nodes.length<=2^30)(hl:t.pods.length<=2^30)(hw:∀p∈t.pods,p.wf):ba T 219 [aD s,ar t] (jR (dS s t.pods 0 s.nodes)):=by
 refine gives F1 rfl ?_;simp only[f219,rM',aa,simprocAttr,aD,ar];refine FJ S F1 Aw s t hn hl hw _ (dS s t.pods 0 s.nodes) (fun ho fr hp nx=>?_) (fun c i ho fr hp nx id h4 hb=>?_) s.nodes 0 rfl (aN _) rfl _ _ _ (ax _) rfl rfl rfl rfl rfl rfl rfl
 ·simp only[rM',aa,simprocAttr,ho,jR]
 ·simp only[rM',aa,simprocAttr,ho,jR,h4,hb,gk]
set_option maxRecDepth 100000 in
set_option maxHeartbeats 4000000 in
theorem CN(S:D8 T)(s:bc)(t:State)(hn:s.nodes.length<=2^30)(hl:t.pods.length<=2^30)(hw:∀p∈t.pods,p.wf)(Q:Exit->St->Prop)(o:Option (Int×Int))
    (bS:o=none->∀fr hp nx,Q (.exit 0) ⟨fr,hp,nx⟩)
    (dI:∀c i,o=some (c,i)->∀fr hp nx,look fr 4=.pv (.int .i64 c)->look fr 5=.pv (.int .i64 i)->Q .ret ⟨fr,hp,nx⟩) :
    ∀(rest:List Node) (i:Nat),s.nodes.drop i=rest->i<=s.nodes.length->dS s t.pods i rest=o->∀(fr:List (Nat×AV)) (hp:Hl) (nx:Nat),2<=nx ->
     look fr 2=.ptr 0 0 0->ah hp 0=.var [.pv (.slice (s.nodes.map bB)),.pv (.slice (s.aU.map bN)),.pv (.slice (s.pods.map aJ))] ->
     look fr 3=.ptr 1 0 0->ah hp 1=.var [.pv (.slice (t.pods.map aJ)),.pv (.int .i64 t.pre),.pv (.int .i64 t.eW)] ->
     look fr 6=.pv (.int .i64 i)->Wp T false (.loop yb) ⟨fr,hp,nx⟩ Q:=by
 intro rest;induction rest with
 |nil =>
  intro i hd hi ho fr hp nx gR h2 b0 h3 b1 h6;have hlen:=drop_nil hd hi;rw[ay,aY yb.eq_1];simp only[rM',aa,simprocAttr,h2,b0,h6,hlen,aR];exact bS ho.symm _ _ _
 |cons n r ih =>
  intro i hd hi ho fr hp nx gR h2 b0 h3 b1 h6;obtain⟨aK,hlt,Sf,di,cS,hb⟩:=drop_cons hd hn;have n0:¬nx=0:=by omega
  have n1:¬nx=1:=by omega
  have k:=Im S s t n.id hn hl hw;simp only[aD,ar,vn,cD,cj]at k;simp only[dS]at ho;rw[ay,aY yb.eq_1];simp only[rM',aa,simprocAttr,h2,b0,h6,hlt];refine tk.2 ?_;rcases oQ s t.pods n.id with hc|⟨hc,_,_⟩
  ·rw[aW hc]at ho;simp only[hc]at k;simp only[rM',aa,simprocAttr,h2,b0,h3,b1,h6,aK,bB,k.ik,Sf];refine⟨?_,ih (i+1) di cS ho _ _ _ ?_ ?_ ?_ ?_ ?_ ?_⟩
   ·simp only[eA,kX,ij,iY,mem,iI,En.reads,fp,iq,gT,kW,mI,AO.tmps,fo,keys,kG,ix,cw,cp,cy,aE,aG,bH,rM',aa,simprocAttr,bw,bh,h2,h3,n0,n1,ne_comm];rfl
   all_goals try simp only[bG,aF,Nat.reduceEqDiff,bA,aI,h2,b0,h3,b1,n0,n1]
   all_goals first|omega|skip
  ·rw[aw hc]at ho;simp only[rM',aa,simprocAttr,h2,b0,h3,b1,h6,aK,bB,k.ik,hc];refine⟨?_,dI _ _ ho.symm _ _ _ ?_ ?_⟩
   ·simp only[eA,kX,ij,iY,mem,iI,En.reads,fp,iq,gT,kW,mI,AO.tmps,fo,keys,kG,ix,cw,cp,cy,aE,aG,bH,rM',aa,simprocAttr,bw,bh,h2,h3,n0,n1,ne_comm];rfl
   all_goals simp only[bG,aF,Nat.reduceEqDiff,bA,aI]
theorem Io(S:D8 T)(JX:Std T 169 f169)(s:bc)(t:State)(hn:s.nodes.length<=2^30)(hl:t.pods.length<=2^30)(hw:∀p∈t.pods,p.wf):ba T 169 [aD s,ar t] (jO (dS s t.pods 0 s.nodes)):=by
 refine gives JX rfl ?_;simp only[f169,rM',aa,simprocAttr,aD,ar];refine CN S s t hn hl hw _ (dS s t.pods 0 s.nodes) (fun ho fr hp nx=>?_) (fun c i ho fr hp nx h4 h5=>?_) s.nodes 0 rfl (aN _) rfl _ _ _ (ax _) rfl rfl rfl rfl rfl
 ·simp only[rM',aa,simprocAttr,ho,jO]
 ·simp only[rM',aa,simprocAttr,ho,jO,h4,h5]
end
end
def f222:bg:=⟨12,[.t 6],
(.seq (.ops [
df 3 0 [],
df 4 1 [],
df 5 2 [],
fR 6 false []])
(.seq (.ops [
bZ 7 3 3 [],
bZ 8 3 4 [],
bZ 9 3 5 [],
aP 10 (.call 223 [.t 7,.t 8,.t 9]) [0,1,2],
aP 11 (.bin .eql (some (.iface true)) (.t 10) (.c (.pv .dJ))) [3],
aq 6 11 [4,3,0,1,2,3,4]])
.ret))⟩
def ux:bz :=
(.seq (.ops [
cM 15 .lss 14 5 []])
(.seq (.cond (.t 15)
.skip
(.exit 0))
(.seq (.block 1
(.seq (.ops [
aP 16 (.uP false 5 1 (.t 13) (.t 14)) [],
aq 8 16 [0,0]])
(.seq (.ops [
aq 17 8 [],
aP 18 (.fJ (.t 17) []) [0],
aq 9 18 [1,1,0,1]])
(.seq (.ops [
aq 19 9 [],
aP 20 (.bin .neq (some (.iface true)) (.t 19) (.c (.pv .dJ))) [0]])
(.cond (.t 20)
(.seq (.ops [
aq 21 9 [],
aq 6 21 [0,0]])
.ret)
.skip)))))
(.ops [
cM 22 .add 14 1 [],
aq 14 22 [0]]))))
def f223:bg:=⟨23,[.t 6],
(.seq (.ops [
df 3 0 [],
df 4 1 [],
df 5 2 [],
jm 6 []])
(.seq (.seq (.ops [
bZ 10 3 3 [],
bZ 11 3 4 [],
bZ 12 3 5 [],
aP 13 (.call 224 [.t 10,.t 11,.t 12]) [0,1,2],
cT 14 0 []])
(.block 0
(.loop ux)))
(.seq (.ops [
jm 6 []])
.ret)))⟩
def f224:bg:=⟨13,[.cell 6 true 5],
(.seq (.ops [
df 3 0 [],
df 4 1 [],
df 5 2 [],
aP 6 (.alloc [.pv .nw,.pv .nw,.pv .nw,.pv .nw,.pv .nw]) []])
(.seq (.ops [
aP 7 (.xb 225 [] [.t 3,.t 5]) [],
aP 8 (.xb 226 [] [.t 3,.t 5]) [],
aP 9 (.xb 227 [] [.t 3,.t 5]) [],
aP 10 (.xb 228 [] [.t 3,.t 5]) [],
aP 11 (.xb 229 [] [.t 4,.t 5]) [],
aP 12 (.build [.pv .nw,.pv .nw,.pv .nw,.pv .nw,.pv .nw] [(0,1,(.t 7)),(1,1,(.t 8)),(2,1,(.t 9)),(3,1,(.t 10)),(4,1,(.t 11))]) [0,1,2,3,4],
dg 5 6 12 [5,0,1,2,3,4,5]])
.ret))⟩
def f225:bg:=⟨6,[.t 2],
(.seq (.ops [
jm 2 []])
(.seq (.ops [
bZ 3 3 0 [],
bZ 4 3 1 [],
aP 5 (.call 219 [.t 3,.t 4]) [0,1],
aq 2 5 [2,2,0,1,2]])
.ret))⟩
def f226:bg:=⟨6,[.t 2],
(.seq (.ops [
jm 2 []])
(.seq (.ops [
bZ 3 3 0 [],
bZ 4 3 1 [],
aP 5 (.call 68 [.t 3,.t 4]) [0,1],
aq 2 5 [2,2,0,1,2]])
.ret))⟩
def f227:bg:=⟨6,[.t 2],
(.seq (.ops [
jm 2 []])
(.seq (.ops [
bZ 3 3 0 [],
bZ 4 3 1 [],
aP 5 (.call 234 [.t 3,.t 4]) [0,1],
aq 2 5 [2,2,0,1,2]])
.ret))⟩
def f228:bg:=⟨6,[.t 2],
(.seq (.ops [
jm 2 []])
(.seq (.ops [
bZ 3 3 0 [],
bZ 4 3 1 [],
aP 5 (.call 70 [.t 3,.t 4]) [0,1],
aq 2 5 [2,2,0,1,2]])
.ret))⟩
def f229:bg:=⟨6,[.t 2],
(.seq (.ops [
jm 2 []])
(.seq (.ops [
bZ 3 3 0 [],
bZ 4 3 1 [],
aP 5 (.call 72 [.t 3,.t 4]) [0,1],
aq 2 5 [2,2,0,1,2]])
.ret))⟩
section
/-! ### The PX Check -/
def dw(s:bc)(pods:List dx):Nat->List fD->Option (Int×Int)
 |_,[]=>none
 |i,l::r=>if 0<l.so/\l.so<vv s l.id pods then some (11,i)else dw s pods (i+1) r
section
variable{T:cL}
theorem Bj(S:BB T)(s:bc)(t:State)(hn:s.nodes.length<=2^29)(hl:t.pods.length<=2^29)(mJ:s.aU.length<=2^29)(Q:Exit->St->Prop)(o:Option (Int×Int))
    (bS:o=none->∀fr hp nx,Q (.exit 0) ⟨fr,hp,nx⟩)
    (dI:∀c i,o=some (c,i)->∀fr hp nx id,look fr 4=.iface 1 (.ptr id 0 0)->ah hp id=.var [.pv (.int .i64 i),.pv (.int .i64 c)]->Q .ret ⟨fr,hp,nx⟩) :
    ∀(rest:List fD) (i:Nat),s.aU.drop i=rest->i<=s.aU.length->dw s t.pods i rest=o->∀(fr:List (Nat×AV)) (hp:Hl) (nx:Nat),2<=nx ->
     look fr 2=.ptr 0 0 0->look fr 3=.ptr 1 0 0->ah hp 0=.var [.pv (.slice (s.nodes.map bB)),.pv (.slice (s.aU.map bN)),.pv (.slice (s.pods.map aJ))] ->
     ah hp 1=.var [.pv (.slice (t.pods.map aJ)),.pv (.int .i64 t.pre),.pv (.int .i64 t.eW)] ->
     look fr 8=.pv (.slice (s.aU.map bN))->look fr 9=.pv (.int .i64 s.aU.length)->look fr 10=.pv (.int .i64 i)->Wp T false (.loop yG) ⟨fr,hp,nx⟩ Q:=by
 intro rest;induction rest with
 |nil =>
  intro i hd hi ho fr hp nx gR h2 h3 b0 b1 h8 h9 h10;have hlen:=drop_nil hd hi;rw[ay,aY yG.eq_1];simp only[rL',aa,simprocAttr,h8,h9,h10,hlen,aR];exact bS ho.symm _ _ _
 |cons l r ih =>
  intro i hd hi ho fr hp nx gR h2 h3 b0 b1 h8 h9 h10;obtain⟨aK,hlt,hw,di,cS,hb⟩:=drop_cons hd (by omega);have n0:¬nx=0:=by omega
  have n1:¬nx=1:=by omega
  have k:=Iu S s t l.id hn hl;simp only[aD,ar]at k;simp only[dw]at ho;rw[ay,aY yG.eq_1];simp only[rL',aa,simprocAttr,h2,h3,b0,b1,h8,h9,h10,hlt,aK,bN,n0,n1];refine(eg rfl).2 ?_;by_cases c1:0<l.so
  ·by_cases c2:l.so<vv s l.id t.pods
   ·rw[aW ⟨c1,c2⟩]at ho;simp only[rL',aa,simprocAttr,h2,h3,b0,b1,h8,h9,h10,n0,n1,k.cn,c1,c2];refine dI 11 i ho.symm _ _ _ (nx+1) ?_ ?_
    all_goals try simp only[aj,Nat.reduceEqDiff,]
   ·rw[aw fun h=>c2 h.2]at ho;simp only[rL',aa,simprocAttr,h2,h3,b0,b1,h8,h9,h10,n0,n1,k.cn,c1,c2,hw];refine ih (i+1) di cS ho _ _ _ (by omega) ?_ ?_ ?_ ?_ ?_ ?_ ?_
    all_goals try simp only[aj,Nat.reduceEqDiff,h2,h3,b0,b1,h8,h9,n0,n1]
  ·rw[aw fun h=>c1 h.1]at ho;simp only[rL',aa,simprocAttr,h2,h3,b0,b1,h8,h9,h10,n0,n1,k.cn,c1,hw];refine ih (i+1) di cS ho _ _ _ (by omega) ?_ ?_ ?_ ?_ ?_ ?_ ?_
   all_goals try simp only[aj,Nat.reduceEqDiff,h2,h3,b0,b1,h8,h9,n0,n1]
theorem FQ(S:BB T)(K8:Std T 234 f234)(s:bc)(t:State)(hn:s.nodes.length<=2^29)(hl:t.pods.length<=2^29)(mJ:s.aU.length<=2^29):ba T 234 [aD s,ar t] (jR (dw s t.pods 0 s.aU)):=by
 refine gives K8 rfl ?_;simp only[f234,rL',aa,simprocAttr,aD,ar];refine Bj S s t hn hl mJ _ (dw s t.pods 0 s.aU) (fun ho fr hp nx=>?_) (fun c i ho fr hp nx id h4 hb=>?_) s.aU 0 rfl (aN _) rfl _ _ _ (ax _) rfl rfl rfl rfl rfl rfl rfl
 ·simp only[rL',aa,simprocAttr,ho,jR]
 ·simp only[rL',aa,simprocAttr,ho,jR,h4,hb,gk]
/-! ### The U5 -/
def EI(s:bc):PV:=.gQ [.slice (s.nodes.map bB),.slice (s.aU.map bN),.slice (s.pods.map aJ)] 0
def Q8(x:Spec):PV:=.gQ [.slice (x.aZ.map cg),.int .i64 x.pre,.int .i64 x.eW] 0
def Bt(t:State):PV:=.gQ [.slice (t.pods.map aJ),.int .i64 t.pre,.int .i64 t.eW] 0
def Lq(s:bc)(x:Spec)(t:State):List PV:=[.func 225 [] [EI s,Bt t],.func 226 [] [EI s,Bt t],.func 227 [] [EI s,Bt t],.func 228 [] [EI s,Bt t],.func 229 [] [Q8 x,Bt t]]
structure qp(T:cL):Prop where
 s6:Jk T
 s8:BB T
 F1:Std T 219 f219
 Aw:vU T 266
 Qf:Std T 68 f68
 J3:Std T 69 f69
 DI:Std T 81 f81
 K8:Std T 234 f234
 Qg:Std T 70 f70
 Lt:Std T 71 f71
 Qh:Std T 72 f72
 Oy:Std T 223 f223
 Oz:Std T 224 f224
 OA:Std T 225 f225
 OB:Std T 226 f226
 OC:Std T 227 f227
 OD:Std T 228 f228
 OE:Std T 229 f229
theorem JO(S:qp T)(s:bc)(x:Spec)(t:State):ba T 224 [aD s,bd x,ar t] (.agg (Lq s x t)):=by
 refine gives S.Oz rfl ?_;simp only[f224,rL',aa,simprocAttr,aD,bd,ar,mkFun,n9,Lq,EI,Q8,Bt]
theorem Jw(S:qp T)(s:bc)(t:State)(hn:s.nodes.length<=2^29)(hl:t.pods.length<=2^29)(hw:∀p∈t.pods,p.wf):ba T 225 [EI s,Bt t] (jR (dS s t.pods 0 s.nodes)):=by
 have k:=L3 S.s6 S.F1 S.Aw s t (by omega) (by omega) hw;simp only[aD,ar]at k;refine gives S.OA rfl ?_;simp only[f225,rL',aa,simprocAttr,EI,Bt,k.call]
theorem Jx(S:qp T)(s:bc)(t:State)(hn:s.aU.length<=2^29)(hl:t.pods.length<=2^29):ba T 226 [EI s,Bt t] (jR (dN s.aU [] t.pods)):=by
 have k:=Gv S.Qf S.J3 S.DI s t (by omega) (by omega);simp only[aD,ar]at k;refine gives S.OB rfl ?_;simp only[f226,rL',aa,simprocAttr,EI,Bt,k.call]
theorem Jy(S:qp T)(s:bc)(t:State)(hn:s.nodes.length<=2^29)(hl:t.pods.length<=2^29)(mJ:s.aU.length<=2^29):ba T 227 [EI s,Bt t] (jR (dw s t.pods 0 s.aU)):=by
 have k:=FQ S.s8 S.K8 s t hn hl mJ;simp only[aD,ar]at k;refine gives S.OC rfl ?_;simp only[f227,rL',aa,simprocAttr,EI,Bt,k.call]
theorem Jz(S:qp T)(s:bc)(t:State)(hl:t.pods.length<=2^29)(mJ:s.aU.length<=2^29):ba T 228 [EI s,Bt t] (jR (eJ t.pods 0 s.aU)):=by
 have k:=EC S.Qg S.Lt s t (by omega) (by omega);simp only[aD,ar]at k;refine gives S.OD rfl ?_;simp only[f228,rL',aa,simprocAttr,EI,Bt,k.call]
theorem JA(S:qp T)(x:Spec)(t:State):ba T 229 [Q8 x,Bt t] (cond (nP x t) (cf 15) .dJ):=by
 have k:=IE S.Qh x t;simp only[bd,ar]at k;refine gives S.OE rfl ?_;simp only[f229,rL',aa,simprocAttr,Q8,Bt,k.call]
/-! ### Vr,Is -/
def vS(r:PV):Prop:=r=.dJ\/(∃a n,r=gk a n)\/∃n,r=cf n
theorem ow(o:Option (Int×Int)):vS (jR o):=by
 cases o with
 |none=>exact .inl rfl
 |some q=>exact .inr (.inl ⟨_,_,rfl⟩)
theorem wM(x:Spec)(t:State):vS (cond (nP x t) (cf 15) .dJ):=by
 cases nP x t
 ·exact .inl rfl
 ·exact .inr (.inr ⟨_,rfl⟩)
def mr:List PV->PV
 |[]=>.dJ
 | .dJ::r=>mr r
 |e::_=>e
def fF:PV->Bool
 | .dJ=>true
 |_=>false
def Ad(s:bc)(x:Spec)(t:State):List PV:=[jR (dS s t.pods 0 s.nodes),jR (dN s.aU [] t.pods),jR (dw s t.pods 0 s.aU),jR (eJ t.pods 0 s.aU),cond (nP x t) (cf 15) .dJ]
def nG(s:bc)(x:Spec)(t:State):PV:=mr (Ad s x t)
theorem uD:∀(l:List PV),(∀e∈l,vS e)->vS (mr l)
 |[],_=>.inl rfl
 |e::r,h=>by
  have h1:=h e (bM ..);have h2:=uD r fun e he=>h e (bf _ he);rcases h1 with rfl|⟨a,n,rfl⟩|⟨n,rfl⟩
  ·exact h2
  ·exact .inr (.inl ⟨_,_,rfl⟩)
  ·exact .inr (.inr ⟨_,rfl⟩)
theorem GX(s:bc)(x:Spec)(t:State):∀e∈Ad s x t,vS e:=by
 intro e he;simp only[Ad,aS,List.not_mem_nil,or_false]at he;rcases he with rfl|rfl|rfl|rfl|rfl
 ·exact ow _
 ·exact ow _
 ·exact ow _
 ·exact ow _
 ·exact wM _ _
theorem oX{fs:List PV}{i n:Nat}{a b r:PV}(hi:i<5)(hf:fs[i]? =some (.func n [] [a,b]))(k:ba T n [a,b] r)(hr:vS r)(Q:Exit->St->Prop)(fr:List (Nat×AV))(hp:Hl)(nx:Nat)
    (ph:look fr 13=.pv (.agg fs)) (uI:look fr 14=.pv (.int .i64 i))
    (hn:r=.dJ->∀fE,look fE 13=.pv (.agg fs)->look fE 14=.pv (.int .i64 ((i+1:Nat):Int))->Wp T false (.loop ux) ⟨fE,hp,nx⟩ Q)
    (hs:r≠ .dJ->∀fE,look fE 6=.pv r->Q .ret ⟨fE,hp,nx⟩):Wp T false (.loop ux) ⟨fr,hp,nx⟩ Q:=by
 have hlt:(i:Int)<5:=by omega
 have hw:IntKind.i64.wrap ((i:Int)+1)=((i+1:Nat):Int):=by rw[f9] <;>omega
 have RU:iW false 1 (List.drop (i*1) (dK fs))=some (.pv (.func n [] [a,b])):=by
  have hlen:i<fs.length:=(aA.1 hf).1;have MH:i<(dK fs).length:=by rw[nC];exact hlen
  have hg:(dK fs)[i]? =some (.pv (.func n [] [a,b])):=by rw[zj,hf];rfl
  have hg2:(dK fs)[i]=.pv (.func n [] [a,b]):=by
   rw[nR MH]at hg;simpa using hg
  rw[Nat.mul_one,List.drop_eq_getElem_cons MH,hg2];rfl
 rw[ay,aY ux.eq_1];rcases hr with rfl|⟨c,m,rfl⟩|⟨m,rfl⟩
 ·simp only[rL',aa,simprocAttr,pe,xM,ph,uI,hlt,hi,RU,k.call,hw];refine hn rfl _ ?_ ?_
  all_goals try simp only[aj,Nat.reduceEqDiff,ph,uI]
 ·simp only[gk]at k;simp only[rL',aa,simprocAttr,pe,xM,ph,uI,hlt,hi,RU,k.call,hw];refine hs (by simp[gk]) _ ?_
  all_goals try simp only[aj,Nat.reduceEqDiff,gk]
 ·simp only[cf]at k;simp only[rL',aa,simprocAttr,pe,xM,ph,uI,hlt,hi,RU,k.call,hw];refine hs (by simp[cf]) _ ?_
  all_goals try simp only[aj,Nat.reduceEqDiff,cf]
theorem mH{e:PV}{r:List PV}(h:e≠ .dJ):mr (e::r)=e:=by
 cases e <;>first|rfl|exact absurd rfl h
theorem IL(S:qp T)(s:bc)(x:Spec)(t:State)(hn:s.nodes.length<=2^29)(hl:t.pods.length<=2^29)(mJ:s.aU.length<=2^29)(hw:∀p∈t.pods,p.wf):ba T 223 [aD s,bd x,ar t] (nG s x t):=by
 have k0:=JO S s x t;have k1:=Jw S s t hn hl hw;have k2:=Jx S s t mJ hl;have k3:=Jy S s t hn hl mJ;have k4:=Jz S s t hl mJ;have k5:=JA S x t;simp only[aD,bd,ar]at k0;refine gives S.Oy rfl ?_;simp only[f223,rL',aa,simprocAttr,aD,bd,ar,k0.call];unfold nG Ad;refine oX (i:=0) (by omega) rfl k1 (ow _) _ _ _ _ rfl rfl (fun e1 fr ph uI=>?_) (fun e1 fr h6=>?_)
 ·rw[e1,mr];refine oX (i:=1) (by omega) rfl k2 (ow _) _ _ _ _ ph uI (fun e1 fr ph uI=>?_) (fun e1 fr h6=>?_)
  ·rw[e1,mr];refine oX (i:=2) (by omega) rfl k3 (ow _) _ _ _ _ ph uI (fun e1 fr ph uI=>?_) (fun e1 fr h6=>?_)
   ·rw[e1,mr];refine oX (i:=3) (by omega) rfl k4 (ow _) _ _ _ _ ph uI (fun e1 fr ph uI=>?_) (fun e1 fr h6=>?_)
    ·rw[e1,mr];refine oX (i:=4) (by omega) rfl k5 (wM _ _) _ _ _ _ ph uI (fun e1 fr ph uI=>?_) (fun e1 fr h6=>?_)
     ·rw[e1,mr];have Rd:look fr 14=.pv (.int .i64 5):=uI;rw[ay,aY ux.eq_1];simp only[rL',aa,simprocAttr,ph,Rd,aR,mr]
     ·rw[mH e1];simp only[rL',aa,simprocAttr,h6]
    ·rw[mH e1];simp only[rL',aa,simprocAttr,h6]
   ·rw[mH e1];simp only[rL',aa,simprocAttr,h6]
  ·rw[mH e1];simp only[rL',aa,simprocAttr,h6]
 ·rw[mH e1];simp only[rL',aa,simprocAttr,h6]
theorem Ks(S:qp T)(K7:Std T 222 f222)(s:bc)(x:Spec)(t:State)(hn:s.nodes.length<=2^29)(hl:t.pods.length<=2^29)(mJ:s.aU.length<=2^29)(hw:∀p∈t.pods,p.wf):ba T 222 [aD s,bd x,ar t] (.bool (fF (nG s x t))):=by
 have k:=IL S s x t hn hl mJ hw;have hv:vS (nG s x t):=uD _ (GX s x t);refine gives K7 rfl ?_;rcases hv with e|⟨a,n,e⟩|⟨n,e⟩ <;>
 ·rw[e]at k⊢;simp only[aD,bd,ar,gk,cf]at k;simp only[f222,rL',aa,simprocAttr,aD,bd,ar,k.call,fF,gk,cf]
end
end
section
def Me(args:List AV)(hp:Hl)(nx:Nat):Option (AV×Hl×Nat) :=
 match args with
 |[.pv .dJ,.iface 2 (.ptr k 0 0)]=>some (.pv (.bool false),hp,nx)
 |[.pv (.iface 0 (.int .i64 n)),.iface 2 (.ptr k 0 0)]=>match ah hp k with
  | .var [.pv .sc]=>some (.pv (.bool false),hp,nx)
  |_=>none
 |[.pv (.iface 1 (.gQ [.int .i64 a,.int .i64 n] 0)),.iface 2 (.ptr k 0 0)]=>match ah hp k with
  | .var [.pv .sc]=>some (.pv (.bool true),(k,.var [.pv (.gQ [.int .i64 a,.int .i64 n] 0)])::hp,nx)
  |_=>none
 |_=>zV args hp nx
theorem Rel.SF{X:Ctx}{M:Nat->Nat}{F:Fr}{hp:Hl}{nx:Nat}{a:Act}{w:World}(R:Rel X M F (ah hp) (fun i=>i<nx) a w){k:Nat}{p0:PV}{u:Value}(hb:ah hp k=.var [.pv p0])(hu:VA (aB X w (fun i=>i<nx) M (ah hp)) (.ptr k 0 0) u) :
    u=.pointer (some ⟨M k,0,none⟩)/\(∃old,w.cell? ⟨M k,0,none⟩=some old)/\w.frozen? ⟨M k,0,none⟩=false:=by
 simp only[VA,aB]at hu;obtain⟨_,_,hu⟩:=hu;have e:=hu (0,0) (by rw[hb];rfl);have hB:=R.blk k;rw[hb]at hB;obtain⟨c,t,q1,q2,q3⟩:=hB;simp only[aB]at q1;have lK:c.size=1:=by simpa using q2
 simp only[mU,and_true]at q3;obtain⟨x,q4,_,_⟩:=q3;refine⟨by simpa using e,⟨x,q4⟩,?_⟩;simp only[World.frozen?,q1];simp
theorem Gy{args:List AV}{hp:Hl}{nx:Nat}{r:AV×Hl×Nat}(h:zV args hp nx=some r):Me args hp nx=some r:=by
 unfold Me;split
 ·simp[zV]at h
 ·simp[zV]at h
 ·simp[zV]at h
 ·exact h
structure Gj(T:cL)(n:Nat):Prop where
 fP:T.fP n=some Me
 raw:T.raw n=true
theorem Gj.a{T:cL}{n:Nat}(S:Gj T n):vU T n:=⟨⟨_,S.fP,fun _ _ _ _ h=>Gy h⟩,S.raw⟩
section
variable{T:cL}{n:Nat}(S:Gj T n)
include S
end
end
section
/-! ### Of -/
def nh:PV->List Int
 | .iface 0 (.int _ n)=>[n]
 | .iface 1 (.gQ [_,.int _ n] _)=>[n]
 |_=>[]
def mm(r:PV):Int:=(nh r).headD 0
section
variable{T:cL}
/-! ### TM -/
end
/-! ### The plain law -/
/-! ### The walk -/
end
def f16:bg:=⟨49,[],
(.seq (.seq (.ops [
aq 8 0 [],
jD 9 8 [0],
bP 10 2 9 [1],
bQ 11 1 10 [2],
aP 12 (.bin .eql (some (.iface true)) (.t 11) (.c (.pv .dJ))) [3]])
(.cond (.t 12)
(.seq (.ops [
aq 13 1 [],
aq 14 0 [],
jD 15 14 [1],
bP 16 1 15 [2],
bQ 17 1 16 [3],
aP 18 (.call 86 [.t 13,.t 17]) [0,4],
aq 6 18 [5,5,0,1,2,3,4,5]])
(.seq (.seq (.ops [
aq 19 6 [],
aP 20 (.bin .eql (some (.iface true)) (.t 19) (.c (.pv .dJ))) [0]])
(.cond (.t 20)
(.ops [
aq 21 2 [],
aP 22 (.fJ (.t 21) []) [0],
aq 6 22 [1,1,0,1]])
.skip))
(.seq (.ops [
aP 7 (.alloc [.pv (.int .i64 0)]) []])
(.seq (.ops [
aq 23 6 [],
aP 24 (.kO 3 (.t 7)) [],
aP 25 (.call 266 [.t 23,.t 24]) [0,1]])
(.cond (.t 25)
(.draw [
aq 26 0 [],
aq 27 0 [],
jD 28 27 [1],
bP 29 0 28 [2],
bQ 30 1 29 [3],
bQ 31 1 7 [],
aP 32 (.build [.pv (.int .i64 0),.pv (.int .i64 0)] [(0,1,(.t 30)),(1,1,(.t 31))]) [4,5],
df 33 32 [6],
aP 34 (.kO 1 (.t 33)) [7],
jD 35 26 [0,0,1,2,3,4,5,6,7,8],
bP 36 2 35 [9,0,1,2,3,4,5,6,7,8],
dg 1 36 34 [10,8,0,1,2,3,4,5,6,7,8]])
.skip)))))
.skip))
(.ops [
aq 37 0 [],
aq 38 0 [],
aq 39 0 [],
jD 40 39 [2],
bP 41 0 40 [3],
bQ 42 1 41 [4],
cM 43 .add 42 1 [5],
aq 44 1 [],
jD 45 37 [0,0,2,3,4,5,6],
bP 46 0 45 [8,0,2,3,4,5,6],
dg 1 46 43 [9,6,0,2,3,4,5,6],
jD 47 38 [1,0,1,2,3,4,5,6,7,8,9,10],
bP 48 1 47 [11,0,1,2,3,4,5,6,7,8,9,10],
dg 1 48 44 [12,7,10,0,1,2,3,4,5,6,7,8,9,10]]))⟩
def Du:bz :=
(.seq (.ops [
eu 39 .lss 38 37 []])
(.seq (.cond (.t 39)
.skip
(.exit 0))
(.seq (.block 1
(.seq (.ops [
ft 40 10 36 38 [],
bZ 41 10 40 [0],
aP 5 (.alloc [.pv (.int .i64 0),.pv (.int .i64 0),.pv (.int .u64 0),.pv (.int .u64 0),.pv (.int .u64 0),.pv (.int .u64 0),.pv (.int .u64 0),.pv (.int .u64 0),.pv (.int .u64 0),.pv (.int .u64 0)]) [],
dg 10 5 41 [2,1,0,1,2]])
(.ops [
aq 42 3 [],
bP 43 0 5 [],
bQ 44 1 43 [1],
aP 45 (.xb 77 [] [.t 5]) [],
aP 46 (.call 16 [.t 42,.t 44,.t 45]) [0,2,3]])))
(.ops [
cM 47 .add 38 1 [],
aq 38 47 [0]]))))
def Dv:bz :=
(.seq (.ops [
eu 55 .lss 54 53 []])
(.seq (.cond (.t 55)
.skip
(.exit 2))
(.seq (.block 3
(.seq (.ops [
ft 56 5 52 54 [],
bZ 57 5 56 [0],
aP 7 (.alloc [.pv (.int .i64 0),.pv (.bool false),.pv (.int .i64 0),.pv (.int .i64 0),.pv (.int .i64 0)]) [],
dg 5 7 57 [2,1,0,1,2]])
(.ops [
aq 58 3 [],
bP 59 0 7 [],
bQ 60 1 59 [1],
aP 61 (.xb 78 [] [.t 7]) [],
aP 62 (.call 16 [.t 58,.t 60,.t 61]) [0,2,3]])))
(.ops [
cM 63 .add 54 1 [],
aq 54 63 [0]]))))
def Dw:bz :=
(.seq (.ops [
eu 71 .lss 70 69 []])
(.seq (.cond (.t 71)
.skip
(.exit 4))
(.seq (.block 5
(.seq (.ops [
ft 72 8 68 70 [],
bZ 73 8 72 [0],
aP 9 (.alloc [.pv (.int .i64 0),.pv (.int .i64 0),.pv (.int .i64 0),.pv (.int .u64 0),.pv (.int .u64 0),.pv (.int .u64 0),.pv (.int .u64 0),.pv (.int .i64 0)]) [],
dg 8 9 73 [2,1,0,1,2]])
(.ops [
aq 74 3 [],
bP 75 0 9 [],
bQ 76 1 75 [1],
aP 77 (.xb 79 [] [.t 1,.t 9]) [],
aP 78 (.call 16 [.t 74,.t 76,.t 77]) [0,2,3]])))
(.ops [
cM 79 .add 70 1 [],
aq 70 79 [0]]))))
def f76:bg:=⟨84,[.t 2],
(.seq (.ops [
df 1 0 [],
jm 2 []])
(.seq (.seq (.ops [
bP 10 0 1 [],
bQ 11 1 10 [0],
fW 12 11 [1],
cM 13 .lss 12 1 [2],
aq 14 13 [3],
dX 15 14 false 0 1 [4],
dP 16 14 false 1 15 [5,4],
dU 17 14 false (.len (.t 16)) [6,4],
fV 18 14 false .gtr 17 8 [7,4],
jJ 19 14 18 [4,8],
aq 20 19 [9,4],
dX 21 20 false 1 1 [10],
dP 22 20 false 1 21 [11,10],
dU 23 20 false (.len (.t 22)) [12,10],
fV 24 20 false .gtr 23 8 [13,10],
jJ 25 20 24 [10,14],
aq 26 25 [15,10],
dX 27 26 false 2 1 [16],
dP 28 26 false 1 27 [17,16],
dU 29 26 false (.len (.t 28)) [18,16],
fV 30 26 false .gtr 29 12 [19,16],
jJ 31 26 30 [16,20]])
(.cond (.t 31)
(.seq (.ops [
aP 32 (.kO 0 (.c (.pv (.int .i64 3)))) [],
aq 2 32 [0,0]])
.ret)
.skip))
(.seq (.ops [
aP 33 (.build [.pv (.int .i64 0),.pv (.int .i64 0),.pv .dJ] []) [],
df 34 33 [0],
aq 3 34 [1,0,1]])
(.seq (.seq (.ops [
bP 35 0 1 [],
bQ 36 1 35 [0],
fW 37 36 [1],
cT 38 0 []])
(.block 0
(.loop Du)))
(.seq (.ops [
aq 48 3 [],
jD 49 48 [0,0],
bP 50 1 49 [1,0],
Nb (.store 1 (.t 50) (.c (.pv (.int .i64 0)))) [2,0]])
(.seq (.seq (.ops [
bP 51 1 1 [],
bQ 52 1 51 [0],
fW 53 52 [1],
cT 54 0 []])
(.block 2
(.loop Dv)))
(.seq (.ops [
aq 64 3 [],
jD 65 64 [0,0],
bP 66 1 65 [1,0],
Nb (.store 1 (.t 66) (.c (.pv (.int .i64 0)))) [2,0]])
(.seq (.seq (.ops [
bP 67 2 1 [],
bQ 68 1 67 [0],
fW 69 68 [1],
cT 70 0 []])
(.block 4
(.loop Dw)))
(.seq (.ops [
aq 80 3 [],
jD 81 80 [0],
bP 82 2 81 [1],
bQ 83 1 82 [2],
aq 2 83 [3,0,1,2,3]])
.ret)))))))))⟩
def f77:bg:=⟨4,[.t 1],
(.seq (.ops [
jm 1 []])
(.seq (.ops [
bZ 2 10 0 [],
aP 3 (.call 88 [.t 2]) [0],
aq 1 3 [1,1,0,1]])
.ret))⟩
def f78:bg:=⟨4,[.t 1],
(.seq (.ops [
jm 1 []])
(.seq (.ops [
bZ 2 5 0 [],
aP 3 (.call 87 [.t 2]) [0],
aq 1 3 [1,1,0,1]])
.ret))⟩
def f79:bg:=⟨6,[.t 2],
(.seq (.ops [
jm 2 []])
(.seq (.ops [
bZ 3 3 0 [],
bZ 4 8 1 [],
aP 5 (.call 89 [.t 3,.t 4]) [0,1],
aq 2 5 [2,2,0,1,2]])
.ret))⟩
def Dx:bz :=
(.seq (.ops [
eu 36 .lss 35 34 []])
(.seq (.cond (.t 36)
.skip
(.exit 0))
(.seq (.block 1
(.seq (.ops [
aq 37 35 [],
aq 6 37 [0,0]])
(.seq (.ops [
aP 7 (.alloc [.pv (.int .i64 0)]) []])
(.seq (.ops [
bZ 38 3 2 [],
bP 39 0 3 [],
bQ 40 1 39 [1],
aq 41 6 [],
aP 42 (.call 90 [.t 38,.t 40,.t 41]) [0,2,3],
aP 43 (.kO 3 (.t 7)) [],
aP 44 (.call 266 [.t 42,.t 43]) [4,5,4]])
(.cond (.t 44)
(.seq (.ops [
aq 45 6 [],
bQ 46 1 7 [],
aP 47 (.build [.pv (.int .i64 0),.pv (.int .i64 0)] [(0,1,(.t 45)),(1,1,(.t 46))]) [0,1],
df 48 47 [2],
aP 49 (.kO 1 (.t 48)) [3],
aq 4 49 [4,0,1,2,3,4]])
.ret)
.skip)))))
(.ops [
cM 50 .add 35 1 [],
aq 35 50 [0]]))))
def f80:bg:=⟨51,[.t 4],
(.seq (.ops [
df 2 0 [],
df 3 1 [],
jm 4 []])
(.seq (.seq (.ops [
bZ 8 3 2 [],
aP 9 (.call 76 [.t 8]) [0],
aq 5 9 [1,1,0,1]])
(.seq (.ops [
aq 10 5 [],
aP 11 (.bin .neq (some (.iface true)) (.t 10) (.c (.pv .dJ))) [0]])
(.cond (.t 11)
(.seq (.ops [
aq 12 5 [],
aq 4 12 [0,0]])
.ret)
.skip)))
(.seq (.seq (.ops [
bP 13 1 3 [],
bQ 14 1 13 [0],
cM 15 .lss 14 0 [1],
aq 16 15 [2],
dX 17 16 false 1 3 [3],
dP 18 16 false 1 17 [4,3],
fV 19 16 false .gtr 18 40 [5,3],
jJ 20 16 19 [3,6],
aq 21 20 [7,3],
dX 22 21 false 2 3 [8],
dP 23 21 false 1 22 [9,8],
fV 24 21 false .lss 23 0 [10,8],
jJ 25 21 24 [8,11],
aq 26 25 [12,8],
dX 27 26 false 2 3 [13],
dP 28 26 false 1 27 [14,13],
fV 29 26 false .gtr 28 40 [15,13],
jJ 30 26 29 [13,16]])
(.cond (.t 30)
(.seq (.ops [
aP 31 (.kO 0 (.c (.pv (.int .i64 3)))) [],
aq 4 31 [0,0]])
.ret)
.skip))
(.seq (.seq (.ops [
bP 32 0 3 [],
bQ 33 1 32 [0],
fW 34 33 [1],
cT 35 0 []])
(.block 0
(.loop Dx)))
(.seq (.ops [
jm 4 []])
.ret)))))⟩
def f85:bg:=⟨9,[.t 2],
(.seq (.ops [
fR 2 false []])
(.seq (.ops [
aq 3 0 [],
cM 4 .geq 3 0 [0],
aq 5 4 [1],
eP 6 5 true 0 [2],
fV 7 5 true .leq 6 100 [3,2],
ib 8 5 7 [2,4],
aq 2 8 [5,2,0,1,2,3,4,5]])
.ret))⟩
def f86:bg:=⟨27,[.t 4],
(.seq (.ops [
jm 4 []])
(.seq (.block 0
(.seq (.ops [
aq 6 0 [],
aq 7 1 [],
eu 8 .eql 6 7 [0,1],
aq 9 8 [2],
eP 10 9 true 0 [3],
fV 11 9 true .geq 10 1 [4,3],
ib 12 9 11 [3,5],
aq 5 12 [6,3]])
(.cond (.t 5)
(.seq (.ops [
aP 13 (.kO 0 (.c (.pv (.int .i64 5)))) [],
aq 4 13 [0,0]])
.ret)
(.seq (.ops [
aq 15 0 [],
cM 16 .lss 15 1 [0],
aq 17 16 [1],
eP 18 17 false 0 [2],
fV 19 17 false .gtr 18 2147483647 [3,2],
jJ 20 17 19 [2,4],
aq 21 20 [5,2],
eP 22 21 false 0 [6],
eP 23 21 false 1 [6],
dU 24 21 false (.bin .lss none (.t 22) (.t 23)) [7,8,6],
jJ 25 21 24 [6,9],
aq 14 25 [10,6]])
(.cond (.t 14)
(.seq (.ops [
aP 26 (.kO 0 (.c (.pv (.int .i64 1)))) [],
aq 4 26 [0,0]])
.ret)
.skip)))))
(.seq (.ops [
jm 4 []])
.ret)))⟩
def f87:bg:=⟨27,[.t 2],
(.seq (.ops [
df 1 0 [],
jm 2 []])
(.seq (.seq (.ops [
bP 3 2 1 [],
bQ 4 1 3 [0],
aP 5 (.call 85 [.t 4]) [1],
aP 6 (.not (.t 5)) [2],
aq 7 6 [3,2],
dX 8 7 false 3 1 [4],
dP 9 7 false 1 8 [5,4],
dU 10 7 false (.call 85 [.t 9]) [6,4,4],
dU 11 7 false (.not (.t 10)) [7,4],
jJ 12 7 11 [4,8],
aq 13 12 [9,7],
dX 14 13 false 4 1 [10],
dP 15 13 false 1 14 [11,10],
dU 16 13 false (.call 85 [.t 15]) [12,10,10],
dU 17 13 false (.not (.t 16)) [13,10],
jJ 18 13 17 [10,14],
aq 19 18 [15,13],
dX 20 19 false 3 1 [16],
dP 21 19 false 1 20 [17,16],
dX 22 19 false 4 1 [16],
dP 23 19 false 1 22 [19,16],
dU 24 19 false (.bin .gtr none (.t 21) (.t 23)) [18,20,16],
jJ 25 19 24 [16,21]])
(.cond (.t 25)
(.seq (.ops [
aP 26 (.kO 0 (.c (.pv (.int .i64 1)))) [],
aq 2 26 [0,0]])
.ret)
.skip))
(.seq (.ops [
jm 2 []])
.ret)))⟩
def f88:bg:=⟨20,[.t 2],
(.seq (.ops [
df 1 0 [],
jm 2 []])
(.seq (.seq (.ops [
bP 3 1 1 [],
bQ 4 1 3 [0],
cM 5 .lss 4 1 [1],
aq 6 5 [2],
dX 7 6 false 1 1 [3],
dP 8 6 false 1 7 [4,3],
fV 9 6 false .gtr 8 8 [5,3],
jJ 10 6 9 [3,6],
aq 11 10 [7,3],
dX 12 11 false 6 1 [8],
dU 13 11 false (.load true 4 (.t 12)) [9,8],
dX 14 11 false 2 1 [8],
dU 15 11 false (.load true 4 (.t 14)) [11,8],
dU 16 11 false (.call 257 [.t 13,.t 15]) [10,12,8,8],
dU 17 11 false (.not (.t 16)) [13,8],
jJ 18 11 17 [8,14]])
(.cond (.t 18)
(.seq (.ops [
aP 19 (.kO 0 (.c (.pv (.int .i64 1)))) [],
aq 2 19 [0,0]])
.ret)
.skip))
(.seq (.ops [
jm 2 []])
.ret)))⟩
def f89:bg:=⟨40,[.t 4],
(.seq (.ops [
df 2 0 [],
df 3 1 [],
jm 4 []])
(.seq (.seq (.ops [
bP 9 2 3 [],
bQ 10 1 9 [0],
aP 11 (.call 85 [.t 10]) [1],
aP 12 (.not (.t 11)) [2]])
(.cond (.t 12)
(.seq (.ops [
aP 13 (.kO 0 (.c (.pv (.int .i64 1)))) [],
aq 4 13 [0,0]])
.ret)
.skip))
(.seq (.ops [
bZ 15 3 2 [],
bP 16 1 3 [],
bQ 17 1 16 [1],
aP 18 (.call 81 [.t 15,.t 17]) [0,2],
aq 14 18 [3],
fc 19 14 0 [4],
fc 20 14 1 [4],
aP 5 (.alloc [.pv (.int .i64 0),.pv (.bool false),.pv (.int .i64 0),.pv (.int .i64 0),.pv (.int .i64 0)]) [],
dg 5 5 19 [7,5,3,0,1,2,3,4,5,7],
aq 6 20 [6,8,0,1,2,3,4,5,6,7,8]])
(.seq (.ops [
bZ 22 3 2 [],
bP 23 7 3 [],
bQ 24 1 23 [1],
aP 25 (.call 82 [.t 22,.t 24]) [0,2],
aq 21 25 [3],
fc 26 21 0 [4],
fc 27 21 1 [4],
aP 7 (.alloc [.pv (.int .i64 0),.pv (.int .i64 0),.pv (.int .u64 0),.pv (.int .u64 0),.pv (.int .u64 0),.pv (.int .u64 0),.pv (.int .u64 0),.pv (.int .u64 0),.pv (.int .u64 0),.pv (.int .u64 0)]) [],
dg 10 7 26 [7,5,3,0,1,2,3,4,5,7],
aq 8 27 [6,8,0,1,2,3,4,5,6,7,8]])
(.seq (.seq (.ops [
aq 28 6 [],
aP 29 (.not (.t 28)) [0],
aq 30 29 [1],
dX 31 30 false 7 3 [2],
dP 32 30 false 1 31 [3,2],
fV 33 30 false .neq 32 0 [4,2],
eP 34 30 false 33 [5,2,2],
eP 35 34 true 8 [6],
dU 36 34 true (.not (.t 35)) [7,6],
Hb 37 30 false 34 36 [6,8,2],
jJ 38 30 37 [2,9]])
(.cond (.t 38)
(.seq (.ops [
aP 39 (.kO 0 (.c (.pv (.int .i64 4)))) [],
aq 4 39 [0,0]])
.ret)
.skip))
(.seq (.ops [
jm 4 []])
.ret))))))⟩
def f90:bg:=⟨60,[.t 6],
(.seq (.ops [
df 3 0 [],
jm 6 []])
(.seq (.ops [
aq 8 1 [],
aq 9 2 [],
ft 10 6 8 9 [0,1],
bZ 11 6 10 [2],
aP 7 (.alloc [.pv (.int .i64 0),.pv (.int .u64 0),.pv (.int .u64 0),.pv (.int .u64 0),.pv (.int .u64 0),.pv (.bool false)]) [],
dg 6 7 11 [4,3,0,1,2,3,4]])
(.seq (.block 0
(.seq (.draw [
aq 13 2 [],
cM 14 .gtr 13 0 [0],
aq 15 14 [1],
dX 16 15 true 0 7 [2],
dP 17 15 true 1 16 [3,2],
eP 18 15 true 1 [2],
eP 19 15 true 2 [2],
fV 20 15 true .sub 19 1 [6,2],
zD 21 15 true 6 18 20 [5,7,2],
dX 22 15 true 0 21 [8,2],
dP 23 15 true 1 22 [9,2],
dU 24 15 true (.bin .eql none (.t 17) (.t 23)) [4,10,2],
ib 25 15 24 [2,11],
aq 12 25 [12,2]])
(.cond (.t 12)
(.seq (.ops [
aP 26 (.kO 0 (.c (.pv (.int .i64 5)))) [],
aq 6 26 [0,0]])
.ret)
(.seq (.draw [
aq 28 2 [],
cM 29 .gtr 28 0 [0],
aq 30 29 [1],
dX 31 30 true 0 7 [2],
dP 32 30 true 1 31 [3,2],
eP 33 30 true 1 [2],
eP 34 30 true 2 [2],
fV 35 30 true .sub 34 1 [6,2],
zD 36 30 true 6 33 35 [5,7,2],
dX 37 30 true 0 36 [8,2],
dP 38 30 true 1 37 [9,2],
dU 39 30 true (.bin .lss none (.t 32) (.t 38)) [4,10,2],
ib 40 30 39 [2,11],
aq 27 40 [12,2]])
(.cond (.t 27)
(.seq (.ops [
aP 41 (.kO 0 (.c (.pv (.int .i64 1)))) [],
aq 6 41 [0,0]])
.ret)
(.seq (.ops [
bP 43 2 3 [],
bQ 44 1 43 [0],
aP 45 (.xb 91 [] [.t 7]) [],
aP 46 (.call 282 [.t 44,.t 45]) [1,2],
aP 47 (.not (.t 46)) [3],
aq 42 47 [4,3]])
(.cond (.t 42)
(.seq (.ops [
aP 48 (.kO 0 (.c (.pv (.int .i64 4)))) [],
aq 6 48 [0,0]])
.ret)
(.seq (.ops [
bP 50 5 7 [],
bQ 51 1 50 [0],
aP 52 (.not (.t 51)) [1],
aq 53 52 [2],
dX 54 53 true 1 7 [3],
dU 55 53 true (.load true 4 (.t 54)) [4,3],
dU 56 53 true (.build [.pv (.int .u64 0),.pv (.int .u64 0),.pv (.int .u64 0),.pv (.int .u64 0)] []) [3],
dU 57 53 true (.bin .neq (some (.plain [false,false,false,false])) (.t 55) (.t 56)) [5,6,3],
ib 58 53 57 [3,7],
aq 49 58 [8,3]])
(.cond (.t 49)
(.seq (.ops [
aP 59 (.kO 0 (.c (.pv (.int .i64 1)))) [],
aq 6 59 [0,0]])
.ret)
.skip)))))))))
(.seq (.ops [
jm 6 []])
.ret))))⟩
def f91:bg:=⟨9,[.t 3],
(.seq (.ops [
df 2 0 [],
fR 3 false []])
(.seq (.ops [
bP 4 0 2 [],
bQ 5 1 4 [0],
bP 6 0 1 [],
bQ 7 1 6 [2],
eu 8 .eql 5 7 [1,3],
aq 3 8 [4,0,1,2,3,4]])
.ret))⟩
def ug:bz :=
(.seq (.seq (.ops [
aq 42 6 [],
bP 43 0 1 [],
bQ 44 1 43 [1],
fW 45 44 [2],
eu 46 .lss 42 45 [0,3]])
(.cond (.t 46)
.skip
(.exit 0)))
(.seq (.block 1
(.seq (.ops [
bP 49 0 1 [],
bQ 50 1 49 [0],
aq 51 6 [],
ft 52 10 50 51 [1,2],
bZ 53 10 52 [3],
aP 7 (.alloc [.pv (.int .i64 0),.pv (.int .i64 0),.pv (.int .u64 0),.pv (.int .u64 0),.pv (.int .u64 0),.pv (.int .u64 0),.pv (.int .u64 0),.pv (.int .u64 0),.pv (.int .u64 0),.pv (.int .u64 0)]) [],
dg 10 7 53 [5,4,0,1,2,3,4,5]])
(.seq (.ops [
bP 54 0 7 [],
bQ 55 1 54 [0],
aq 56 4 [],
aP 57 (.call 160 [.t 55,.t 56]) [1,2],
aq 8 57 [3,3,0,1,2,3]])
(.seq (.ops [
bP 58 6 7 [],
bZ 59 4 58 [0],
bP 60 2 7 [],
bZ 61 4 60 [2],
aP 62 (.call 141 [.t 59,.t 61]) [1,3],
aq 9 62 [4,4,0,1,2,3,4]])
(.seq (.seq (.ops [
aq 63 8 [],
cM 64 .eql 63 0 [0],
aq 65 64 [1],
dX 66 65 true 1 7 [2],
dP 67 65 true 1 66 [3,2],
fV 68 65 true .lss 67 1 [4,2],
eP 69 65 true 68 [5,2,2],
dX 70 69 false 1 7 [6],
dP 71 69 false 1 70 [7,6],
fV 72 69 false .gtr 71 8 [8,6],
dU 73 65 true (.pick (.t 69) (.c (.pv (.bool true))) (.t 72)) [6,9,2],
eP 74 65 true 73 [10,6,2],
eP 75 74 false 9 [11],
dU 76 74 false (.not (.t 75)) [12,11],
dU 77 65 true (.pick (.t 74) (.c (.pv (.bool true))) (.t 76)) [11,13,2],
ib 78 65 77 [2,14]])
(.cond (.t 78)
(.ops [
cT 8 1 []])
.skip))
(.seq (.seq (.ops [
aq 79 8 [],
cM 80 .neq 79 0 [0]])
(.cond (.t 80)
(.seq (.ops [
aq 81 8 [],
aq 82 5 [],
aq 2 81 [0,0],
aq 3 82 [1,2,0,1,2]])
.ret)
.skip))
(.seq (.ops [
bP 83 0 7 [],
bQ 84 1 83 [0],
aq 4 84 [1,0,1]])
(.ops [
aq 85 5 [],
cM 86 .add 85 1 [0],
aq 5 86 [1,0,1]]))))))))
(.ops [
aq 47 6 [],
cM 48 .add 47 1 [0],
aq 6 48 [1,0,1]])))
def uh:bz :=
(.seq (.seq (.ops [
aq 87 10 [],
bP 88 1 1 [],
bQ 89 1 88 [1],
fW 90 89 [2],
eu 91 .lss 87 90 [0,3]])
(.cond (.t 91)
.skip
(.exit 2)))
(.seq (.block 3
(.seq (.ops [
bP 94 1 1 [],
bQ 95 1 94 [0],
aq 96 10 [],
ft 97 5 95 96 [1,2],
bZ 98 5 97 [3],
aP 11 (.alloc [.pv (.int .i64 0),.pv (.bool false),.pv (.int .i64 0),.pv (.int .i64 0),.pv (.int .i64 0)]) [],
dg 5 11 98 [5,4,0,1,2,3,4,5]])
(.seq (.ops [
bP 99 0 11 [],
bQ 100 1 99 [0],
aq 101 4 [],
aP 102 (.call 160 [.t 100,.t 101]) [1,2],
aq 12 102 [3,3,0,1,2,3]])
(.seq (.ops [
bP 103 2 11 [],
bQ 104 1 103 [0],
aP 105 (.call 159 [.t 104]) [1],
aq 13 105 [2,2,0,1,2]])
(.seq (.ops [
bP 106 3 11 [],
bQ 107 1 106 [0],
aP 108 (.call 159 [.t 107]) [1],
aq 14 108 [2,2,0,1,2]])
(.seq (.ops [
bP 109 4 11 [],
bQ 110 1 109 [0],
aP 111 (.call 159 [.t 110]) [1],
aq 15 111 [2,2,0,1,2]])
(.seq (.seq (.ops [
aq 112 12 [],
cM 113 .eql 112 0 [0],
aq 114 113 [1],
eP 115 114 true 13 [2],
dU 116 114 true (.not (.t 115)) [3,2],
eP 117 114 true 116 [4,2,2],
eP 118 117 false 14 [5],
dU 119 117 false (.not (.t 118)) [6,5],
dU 120 114 true (.pick (.t 117) (.c (.pv (.bool true))) (.t 119)) [5,7,2],
eP 121 114 true 120 [8,5,2],
eP 122 121 false 15 [9],
dU 123 121 false (.not (.t 122)) [10,9],
dU 124 114 true (.pick (.t 121) (.c (.pv (.bool true))) (.t 123)) [9,11,2],
eP 125 114 true 124 [12,9,2],
dX 126 125 false 3 11 [13],
dP 127 125 false 1 126 [14,13],
dX 128 125 false 4 11 [13],
dP 129 125 false 1 128 [16,13],
dU 130 125 false (.bin .gtr none (.t 127) (.t 129)) [15,17,13],
dU 131 114 true (.pick (.t 125) (.c (.pv (.bool true))) (.t 130)) [13,18,2],
ib 132 114 131 [2,19]])
(.cond (.t 132)
(.ops [
cT 12 1 []])
.skip))
(.seq (.seq (.ops [
aq 133 12 [],
cM 134 .neq 133 0 [0]])
(.cond (.t 134)
(.seq (.ops [
aq 135 12 [],
aq 136 5 [],
aq 2 135 [0,0],
aq 3 136 [1,2,0,1,2]])
.ret)
.skip))
(.seq (.ops [
bP 137 0 11 [],
bQ 138 1 137 [0],
aq 4 138 [1,0,1]])
(.ops [
aq 139 5 [],
cM 140 .add 139 1 [0],
aq 5 140 [1,0,1]]))))))))))
(.ops [
aq 92 10 [],
cM 93 .add 92 1 [0],
aq 10 93 [1,0,1]])))
def ui:bz :=
(.seq (.seq (.ops [
aq 141 16 [],
bP 142 2 1 [],
bQ 143 1 142 [1],
fW 144 143 [2],
eu 145 .lss 141 144 [0,3]])
(.cond (.t 145)
.skip
(.exit 4)))
(.seq (.block 5
(.seq (.ops [
bP 148 2 1 [],
bQ 149 1 148 [0],
aq 150 16 [],
ft 151 8 149 150 [1,2],
bZ 152 8 151 [3],
aP 17 (.alloc [.pv (.int .i64 0),.pv (.int .i64 0),.pv (.int .i64 0),.pv (.int .u64 0),.pv (.int .u64 0),.pv (.int .u64 0),.pv (.int .u64 0),.pv (.int .i64 0)]) [],
dg 8 17 152 [5,4,0,1,2,3,4,5]])
(.seq (.ops [
bP 153 0 17 [],
bQ 154 1 153 [0],
aq 155 4 [],
aP 156 (.call 160 [.t 154,.t 155]) [1,2],
aq 18 156 [3,3,0,1,2,3]])
(.seq (.ops [
bP 157 2 17 [],
bQ 158 1 157 [0],
aP 159 (.call 159 [.t 158]) [1],
aq 19 159 [2,2,0,1,2]])
(.seq (.seq (.ops [
aq 160 18 [],
cM 161 .eql 160 0 [0],
aq 162 161 [1],
eP 163 162 true 19 [2],
dU 164 162 true (.not (.t 163)) [3,2],
ib 165 162 164 [2,4]])
(.cond (.t 165)
(.ops [
cT 18 1 []])
.skip))
(.seq (.seq (.ops [
aq 166 18 [],
cM 167 .eql 166 0 [0],
aq 168 167 [1],
dU 169 168 true (.load true 3 (.t 1)) [2],
dX 170 168 true 1 17 [2],
dP 171 168 true 1 170 [4,2],
dU 172 168 true (.call 154 [.t 169,.t 171]) [3,5,2,2],
fV 173 168 true .lss 172 0 [6,2],
eP 174 168 true 173 [7,6,2],
dX 175 174 false 7 17 [8],
dP 176 174 false 1 175 [9,8],
fV 177 174 false .neq 176 0 [10,8],
eP 178 174 false 177 [11,8,8],
dU 179 178 true (.load true 3 (.t 1)) [12],
dX 180 178 true 7 17 [12],
dP 181 178 true 1 180 [14,12],
dU 182 178 true (.call 155 [.t 179,.t 181]) [13,15,12,12],
fV 183 178 true .lss 182 0 [16,12],
Hb 184 174 false 178 183 [12,17,8],
dU 185 168 true (.pick (.t 174) (.c (.pv (.bool true))) (.t 184)) [8,18,2],
ib 186 168 185 [2,19]])
(.cond (.t 186)
(.ops [
cT 18 4 []])
.skip))
(.seq (.seq (.ops [
aq 187 18 [],
cM 188 .neq 187 0 [0]])
(.cond (.t 188)
(.seq (.ops [
aq 189 18 [],
aq 190 5 [],
aq 2 189 [0,0],
aq 3 190 [1,2,0,1,2]])
.ret)
.skip))
(.seq (.ops [
bP 191 0 17 [],
bQ 192 1 191 [0],
aq 4 192 [1,0,1]])
(.ops [
aq 193 5 [],
cM 194 .add 193 1 [0],
aq 5 194 [1,0,1]])))))))))
(.ops [
aq 146 16 [],
cM 147 .add 146 1 [0],
aq 16 147 [1,0,1]])))
def f151:bg:=⟨195,[.t 2,.t 3],
(.seq (.ops [
df 1 0 [],
cT 2 0 [],
cT 3 0 [1]])
(.seq (.seq (.ops [
bP 20 0 1 [],
bQ 21 1 20 [0],
fW 22 21 [1],
cM 23 .eql 22 0 [2],
aq 24 23 [3],
dX 25 24 false 0 1 [4],
dP 26 24 false 1 25 [5,4],
dU 27 24 false (.len (.t 26)) [6,4],
fV 28 24 false .gtr 27 8 [7,4],
jJ 29 24 28 [4,8],
aq 30 29 [9,4],
dX 31 30 false 1 1 [10],
dP 32 30 false 1 31 [11,10],
dU 33 30 false (.len (.t 32)) [12,10],
fV 34 30 false .gtr 33 8 [13,10],
jJ 35 30 34 [10,14],
aq 36 35 [15,10],
dX 37 36 false 2 1 [16],
dP 38 36 false 1 37 [17,16],
dU 39 36 false (.len (.t 38)) [18,16],
fV 40 36 false .gtr 39 12 [19,16],
jJ 41 36 40 [16,20]])
(.cond (.t 41)
(.seq (.ops [
cT 2 3 [],
cT 3 (-1) [0,0]])
.ret)
.skip))
(.seq (.ops [
cT 4 0 []])
(.seq (.ops [
cT 5 0 []])
(.seq (.seq (.ops [
cT 6 0 []])
(.block 0
(.loop ug)))
(.seq (.ops [
cT 4 0 []])
(.seq (.seq (.ops [
cT 10 0 []])
(.block 2
(.loop uh)))
(.seq (.ops [
cT 4 0 []])
(.seq (.seq (.ops [
cT 16 0 []])
(.block 4
(.loop ui)))
(.seq (.ops [
cT 2 0 [],
cT 3 (-1) [0,0]])
.ret))))))))))⟩
def nj:bz :=
(.seq (.seq (.ops [
aq 37 8 [],
bP 38 0 3 [],
bQ 39 1 38 [1],
fW 40 39 [2],
eu 41 .lss 37 40 [0,3]])
(.cond (.t 41)
.skip
(.exit 0)))
(.seq (.block 1
(.seq (.ops [
bP 44 0 3 [],
bQ 45 1 44 [0],
aq 46 8 [],
ft 47 6 45 46 [1,2],
bZ 48 6 47 [3],
aP 9 (.alloc [.pv (.int .i64 0),.pv (.int .u64 0),.pv (.int .u64 0),.pv (.int .u64 0),.pv (.int .u64 0),.pv (.bool false)]) [],
dg 6 9 48 [5,4,0,1,2,3,4,5]])
(.seq (.seq (.draw [
aq 49 8 [],
cM 50 .gtr 49 0 [0],
aq 51 50 [1],
dX 52 51 true 0 9 [2],
dP 53 51 true 1 52 [3,2],
dX 54 51 true 0 3 [2],
dP 55 51 true 1 54 [5,2],
eP 56 51 true 8 [2],
fV 57 51 true .sub 56 1 [7,2],
zD 58 51 true 6 55 57 [6,8,2],
dX 59 51 true 0 58 [9,2],
dP 60 51 true 1 59 [10,2],
dU 61 51 true (.bin .eql none (.t 53) (.t 60)) [4,11,2],
ib 62 51 61 [2,12]])
(.cond (.t 62)
(.seq (.ops [
aq 63 8 [],
cT 4 5 [],
aq 5 63 [0,1,0,1]])
.ret)
.skip))
(.seq (.seq (.draw [
aq 64 8 [],
cM 65 .gtr 64 0 [0],
aq 66 65 [1],
dX 67 66 true 0 9 [2],
dP 68 66 true 1 67 [3,2],
dX 69 66 true 0 3 [2],
dP 70 66 true 1 69 [5,2],
eP 71 66 true 8 [2],
fV 72 66 true .sub 71 1 [7,2],
zD 73 66 true 6 70 72 [6,8,2],
dX 74 66 true 0 73 [9,2],
dP 75 66 true 1 74 [10,2],
dU 76 66 true (.bin .lss none (.t 68) (.t 75)) [4,11,2],
ib 77 66 76 [2,12]])
(.cond (.t 77)
(.seq (.ops [
aq 78 8 [],
cT 4 1 [],
aq 5 78 [0,1,0,1]])
.ret)
.skip))
(.seq (.seq (.ops [
bZ 79 3 2 [],
bP 80 0 9 [],
bQ 81 1 80 [1],
aP 82 (.call 156 [.t 79,.t 81]) [0,2],
cM 83 .lss 82 0 [3]])
(.cond (.t 83)
(.seq (.ops [
aq 84 8 [],
cT 4 4 [],
aq 5 84 [0,1,0,1]])
.ret)
.skip))
(.seq (.ops [
bP 85 5 9 [],
bQ 86 1 85 [0],
aP 87 (.not (.t 86)) [1],
aq 88 87 [2],
dX 89 88 true 1 9 [3],
dU 90 88 true (.load true 4 (.t 89)) [4,3],
dU 91 88 true (.build [.pv (.int .u64 0),.pv (.int .u64 0),.pv (.int .u64 0),.pv (.int .u64 0)] []) [3],
dU 92 88 true (.bin .neq (some (.plain [false,false,false,false])) (.t 90) (.t 91)) [5,6,3],
ib 93 88 92 [3,7]])
(.cond (.t 93)
(.seq (.ops [
aq 94 8 [],
cT 4 1 [],
aq 5 94 [0,1,0,1]])
.ret)
.skip)))))))
(.ops [
aq 42 8 [],
cM 43 .add 42 1 [0],
aq 8 43 [1,0,1]])))
def f152:bg:=⟨95,[.t 4,.t 5],
(.seq (.ops [
df 2 0 [],
df 3 1 [],
cT 4 0 [],
cT 5 0 [2]])
(.seq (.ops [
bZ 11 3 2 [],
aP 12 (.call 151 [.t 11]) [0],
aq 10 12 [1],
fc 13 10 0 [2],
fc 14 10 1 [2],
aq 6 13 [3,1,0,1,2,3],
aq 7 14 [4,5,0,1,2,3,4,5]])
(.seq (.seq (.ops [
aq 15 6 [],
cM 16 .neq 15 0 [0]])
(.cond (.t 16)
(.seq (.ops [
aq 17 6 [],
aq 18 7 [],
aq 4 17 [0,0],
aq 5 18 [1,2,0,1,2]])
.ret)
.skip))
(.seq (.seq (.ops [
bP 19 1 3 [],
bQ 20 1 19 [0],
cM 21 .lss 20 0 [1],
aq 22 21 [2],
dX 23 22 false 1 3 [3],
dP 24 22 false 1 23 [4,3],
fV 25 22 false .gtr 24 40 [5,3],
jJ 26 22 25 [3,6],
aq 27 26 [7,3],
dX 28 27 false 2 3 [8],
dP 29 27 false 1 28 [9,8],
fV 30 27 false .lss 29 0 [10,8],
jJ 31 27 30 [8,11],
aq 32 31 [12,8],
dX 33 32 false 2 3 [13],
dP 34 32 false 1 33 [14,13],
fV 35 32 false .gtr 34 40 [15,13],
jJ 36 32 35 [13,16]])
(.cond (.t 36)
(.seq (.ops [
cT 4 3 [],
cT 5 (-1) [0,0]])
.ret)
.skip))
(.seq (.seq (.ops [
cT 8 0 []])
(.block 0
(.loop nj)))
(.seq (.ops [
cT 4 0 [],
cT 5 (-1) [0,0]])
.ret))))))⟩
def xZ:bz :=
(.seq (.seq (.ops [
aq 6 5 [],
bP 7 1 2 [],
bQ 8 1 7 [1],
fW 9 8 [2],
eu 10 .lss 6 9 [0,3]])
(.cond (.t 10)
.skip
(.exit 0)))
(.seq (.block 1
(.seq (.ops [
bP 13 1 2 [],
bQ 14 1 13 [0],
aq 15 5 [],
ft 16 5 14 15 [1,2],
bP 17 0 16 [3],
bQ 18 1 17 [4],
aq 19 1 [],
eu 20 .eql 18 19 [5,6]])
(.cond (.t 20)
(.seq (.ops [
aq 21 5 [],
aq 4 21 [0,0]])
.ret)
.skip)))
(.ops [
aq 11 5 [],
cM 12 .add 11 1 [0],
aq 5 12 [1,0,1]])))
def f154:bg:=⟨22,[.t 4],
(.seq (.ops [
df 2 0 [],
cT 4 0 []])
(.seq (.seq (.ops [
cT 5 0 []])
(.block 0
(.loop xZ)))
(.seq (.ops [
cT 4 (-1) []])
.ret)))⟩
def y8:bz :=
(.seq (.seq (.ops [
aq 6 5 [],
bP 7 2 2 [],
bQ 8 1 7 [1],
fW 9 8 [2],
eu 10 .lss 6 9 [0,3]])
(.cond (.t 10)
.skip
(.exit 0)))
(.seq (.block 1
(.seq (.ops [
bP 13 2 2 [],
bQ 14 1 13 [0],
aq 15 5 [],
ft 16 8 14 15 [1,2],
bP 17 0 16 [3],
bQ 18 1 17 [4],
aq 19 1 [],
eu 20 .eql 18 19 [5,6]])
(.cond (.t 20)
(.seq (.ops [
aq 21 5 [],
aq 4 21 [0,0]])
.ret)
.skip)))
(.ops [
aq 11 5 [],
cM 12 .add 11 1 [0],
aq 5 12 [1,0,1]])))
def f156:bg:=⟨22,[.t 4],
(.seq (.ops [
df 2 0 [],
cT 4 0 []])
(.seq (.seq (.ops [
cT 5 0 []])
(.block 0
(.loop y8)))
(.seq (.ops [
cT 4 (-1) []])
.ret)))⟩
def f159:bg:=⟨9,[.t 2],
(.seq (.ops [
fR 2 false []])
(.seq (.ops [
aq 3 0 [],
cM 4 .geq 3 0 [0],
aq 5 4 [1],
eP 6 5 true 0 [2],
fV 7 5 true .leq 6 100 [3,2],
ib 8 5 7 [2,4],
aq 2 8 [5,2,0,1,2,3,4,5]])
.ret))⟩
def f160:bg:=⟨17,[.t 4],
(.seq (.ops [
cT 4 0 []])
(.seq (.seq (.ops [
aq 5 0 [],
cM 6 .lss 5 1 [0],
aq 7 6 [1],
eP 8 7 false 0 [2],
fV 9 7 false .gtr 8 2147483647 [3,2],
jJ 10 7 9 [2,4]])
(.cond (.t 10)
(.seq (.ops [
cT 4 1 []])
.ret)
.skip))
(.seq (.seq (.ops [
aq 11 0 [],
aq 12 1 [],
eu 13 .eql 11 12 [0,1]])
(.cond (.t 13)
(.seq (.ops [
cT 4 5 []])
.ret)
.skip))
(.seq (.seq (.ops [
aq 14 0 [],
aq 15 1 [],
eu 16 .lss 14 15 [0,1]])
(.cond (.t 16)
(.seq (.ops [
cT 4 1 []])
.ret)
.skip))
(.seq (.ops [
cT 4 0 []])
.ret)))))⟩
def f257:bg:=⟨15,[.t 4],
(.seq (.ops [
df 2 0 [],
df 3 1 [],
fR 4 false []])
(.seq (.ops [
bZ 8 4 3 [],
bZ 9 4 2 [],
aP 10 (.call 258 [.t 8,.t 9]) [0,1],
aq 7 10 [2],
fc 11 7 0 [3],
fc 12 7 1 [3],
aP 5 (.alloc [.pv (.int .u64 0),.pv (.int .u64 0),.pv (.int .u64 0),.pv (.int .u64 0)]) [],
dg 4 5 11 [6,4,2,0,1,2,3,4,6],
aq 6 12 [5,7,0,1,2,3,4,5,6,7]])
(.seq (.ops [
aq 13 6 [],
aP 14 (.bin .eql (some (.iface true)) (.t 13) (.c (.pv .dJ))) [0],
aq 4 14 [1,0,1]])
.ret)))⟩
def f282:bg:=⟨9,[.t 4],
(.seq (.ops [
fR 4 false []])
(.seq (.ops [
aq 5 0 [],
aq 6 1 [],
aP 7 (.call 287 [.t 5,.t 6]) [0,1],
cM 8 .geq 7 0 [2],
aq 4 8 [3,2,0,1,2,3]])
.ret))⟩
section
def ir(n:Int):Bool:=decide (0<=n)&&decide (n<=100)
def vP(n last:Int):Int:=if n=last/\1<=n then 5 else if n<1\/2147483647<n\/n<last then 1 else 0
def Qw(n last:Int):Int:=if n<1\/2147483647<n then 1 else if n=last then 5 else if n<last then 1 else 0
theorem yV{n last:Int}(h:last<=2147483647):vP n last=Qw n last:=by
 unfold vP Qw;by_cases h1:n<1\/2147483647<n
 ·rw[aW h1,aw (by omega),aW (by omega)]
 ·rw[aw h1];by_cases h2:n=last
  ·rw[aW h2,aW (by omega)]
  ·rw[aw h2,aw (by omega)];by_cases h3:n<last
   ·rw[aW h3,aW (by omega)]
   ·rw[aw h3,aw (by omega)]
def cY(l:fD):Int:=if ir l.so=true/\ir l.min=true/\ir l.max=true/\l.min<=l.max then 0 else 1
def da(n:Node):Int:=if 1<=n.bX/\n.bX<=8/\pJ n.held n.cap=true then 0 else 1
def ej(s:bc)(p:dx):Int:=if ir p.prio=false then 1 else if gy p.load s.aU=none\/(p.node≠0/\dv p.node s.nodes=none)then 4 else 0
theorem gJ:jG 0=.dJ:=rfl
theorem gV:jG 1=.iface 0 (.int .i64 1):=rfl
theorem jj:jG 4=.iface 0 (.int .i64 4):=rfl
theorem Lp:jG 5=.iface 0 (.int .i64 5):=rfl
section
variable{T:cL}
theorem qA(J4:Std T 85 f85)(n:Int):ba T 85 [.int .i64 n] (.bool (ir n)):=by
 refine gives J4 rfl ?_;unfold ir;by_cases h1:0<=n
 ·simp only[f85,rL',aa,simprocAttr,h1,bh]
 ·simp only[f85,rL',aa,simprocAttr,h1,cB]
theorem Pt(Mv:Std T 86 f86)(n last:Int):ba T 86 [.int .i64 n,.int .i64 last] (jG (vP n last)):=by
 refine gives Mv rfl ?_;unfold vP;have D:∀p:Prop,[Decidable p]->p->decide p=true:=fun p _ h=>bI h;by_cases h1:n=last
 ·have d1:=D _ h1;by_cases h2:1<=n
  ·rw[aW ⟨h1,h2⟩];simp only[f86,rL',aa,simprocAttr,d1,h2,Lp]
  ·rw[aw (fun h=>h2 h.2),aW (.inl (by omega))];have h3:n<1:=by omega
   simp only[f86,rL',aa,simprocAttr,d1,h2,h3,gV]
 ·rw[aw (fun h=>h1 h.1)];by_cases h3:n<1
  ·rw[aW (.inl h3)];simp only[f86,rL',aa,simprocAttr,h1,h3,gV]
  ·by_cases h4:2147483647<n
   ·rw[aW (.inr (.inl h4))];simp only[f86,rL',aa,simprocAttr,h1,h3,h4,gV]
   ·by_cases h5:n<last
    ·rw[aW (.inr (.inr h5))];simp only[f86,rL',aa,simprocAttr,h1,h3,h4,h5,gV]
    ·rw[aw (by omega)];simp only[f86,rL',aa,simprocAttr,h1,h3,h4,h5,gJ]
theorem GO(RD:Std T 87 f87)(J4:Std T 85 f85)(l:fD):ba T 87 [.agg (bN l)] (jG (cY l)):=by
 refine gives RD rfl ?_;have k1:=qA J4 l.so;have k2:=qA J4 l.min;have k3:=qA J4 l.max;unfold cY;cases c1:ir l.so
 ·rw[aw (by simp)];simp only[f87,rL',aa,simprocAttr,gJ,gV,jj,bN,k1.call,c1]
 ·cases c2:ir l.min
  ·rw[aw (by simp)];simp only[f87,rL',aa,simprocAttr,gJ,gV,jj,bN,k1.call,k2.call,c1,c2]
  ·cases c3:ir l.max
   ·rw[aw (by simp)];simp only[f87,rL',aa,simprocAttr,gJ,gV,jj,bN,k1.call,k2.call,k3.call,c1,c2,c3]
   ·by_cases c4:l.max<l.min
    ·rw[aw (by omega)];simp only[f87,rL',aa,simprocAttr,gJ,gV,jj,bN,k1.call,k2.call,k3.call,c1,c2,c3,c4]
    ·rw[aW ⟨rfl,rfl,rfl,by omega⟩];simp only[f87,rL',aa,simprocAttr,gJ,gV,jj,bN,k1.call,k2.call,k3.call,c1,c2,c3,c4]
structure Mb(T:cL):Prop where
 Ry:Std T 257 f257
 F2:Std T 258 f258
 yT:Std T 261 f261
 yS:Std T 259 f259
theorem IF(S:Mb T)(a b:jC):ba T 257 [cD a,cD b] (.bool (pJ a b)):=by
 refine gives S.Ry rfl ?_;have k:=CZ S.F2 S.yT S.yS b a;rw[E7]at k;simp only[cD,cj]at k;cases hf:pJ a b
 ·rw[hf,aw (by simp)]at k;simp only[hJ,cD,cj,cG,cf]at k;simp only[f257,rL',aa,simprocAttr,cD,cj,k.call,fq]
 ·rw[hf]at k;simp only[hJ,cD,cj]at k;simp only[f257,rL',aa,simprocAttr,cD,cj,k.call,fq]
theorem GP(RE:Std T 88 f88)(S:Mb T)(n:Node):ba T 88 [.agg (bB n)] (jG (da n)):=by
 refine gives RE rfl ?_;have k:=IF S n.held n.cap;simp only[cD,cj]at k;unfold da;by_cases c1:n.bX<1
 ·rw[aw (by omega)];simp only[f88,rL',aa,simprocAttr,gJ,gV,jj,bB,c1]
 ·by_cases c2:8<n.bX
  ·rw[aw (by omega)];simp only[f88,rL',aa,simprocAttr,gJ,gV,jj,bB,c1,c2]
  ·cases hf:pJ n.held n.cap
   ·rw[aw (by simp)];rw[hf]at k;simp only[f88,rL',aa,simprocAttr,gJ,gV,jj,bB,c1,c2,k.call]
   ·rw[aW ⟨by omega,by omega,rfl⟩];rw[hf]at k;simp only[f88,rL',aa,simprocAttr,gJ,gV,jj,bB,c1,c2,k.call]
theorem JG(RF:Std T 89 f89)(J4:Std T 85 f85)(DI:Std T 81 f81)(Kc:Std T 82 f82)(s:bc)(p:dx)(hl:s.aU.length<=2^30)(hn:s.nodes.length<=2^30):ba T 89 [aD s,.agg (aJ p)] (jG (ej s p)):=by
 refine gives RF rfl ?_;have k1:=qA J4 p.prio;have k2:=DT DI s p.load hl;have k3:=tz Kc s p.node hn;simp only[aD]at k2 k3;unfold ej;cases c1:ir p.prio
 ·rw[aW rfl];simp only[f89,rL',aa,simprocAttr,gJ,gV,jj,aD,aJ,k1.call,c1]
 ·rw[aw (by simp)];cases Hu:gy p.load s.aU with
  |none =>
   rw[Hu]at k2;simp only[lX,bN,jX]at k2;rw[aW (.inl rfl)];cases qR:dv p.node s.nodes with
   |none =>
    rw[qR]at k3;simp only[jZ,bB,mO]at k3;simp only[f89,rL',aa,simprocAttr,gJ,gV,jj,aD,aJ,k1.call,c1,k2.call,k3.call]
   |some n =>
    rw[qR]at k3;simp only[jZ,bB]at k3;simp only[f89,rL',aa,simprocAttr,gJ,gV,jj,aD,aJ,k1.call,c1,k2.call,k3.call]
  |some l =>
   rw[Hu]at k2;simp only[lX,bN]at k2;cases qR:dv p.node s.nodes with
   |none =>
    rw[qR]at k3;simp only[jZ,bB,mO]at k3;by_cases c2:p.node=0
    ·have d2:decide (p.node=0)=true:=bI c2;rw[aw (by simp[c2])];simp only[f89,rL',aa,simprocAttr,gJ,gV,jj,aD,aJ,k1.call,c1,k2.call,k3.call,d2]
    ·rw[aW (.inr ⟨c2,rfl⟩)];simp only[f89,rL',aa,simprocAttr,gJ,gV,jj,aD,aJ,k1.call,c1,k2.call,k3.call,c2]
   |some n =>
    rw[qR]at k3;simp only[jZ,bB]at k3;rw[aw (by simp)];by_cases c2:p.node=0
    ·have d2:decide (p.node=0)=true:=bI c2;simp only[f89,rL',aa,simprocAttr,gJ,gV,jj,aD,aJ,k1.call,c1,k2.call,k3.call,d2]
    ·simp only[f89,rL',aa,simprocAttr,gJ,gV,jj,aD,aJ,k1.call,c1,k2.call,k3.call,c2]
end
end
section
def fL(n last c:Int):Int:=if vP n last≠0 then vP n last else c
def jl(a n last c:Int):Option (Int×Int):=if fL n last c≠0 then some (fL n last c,a)else none
def sY(err:AV)(hp:Hl)(o:Option (Int×Int))(kid nx:Nat):Prop:=match o with
 |none=>err=.pv .dJ
 |some (c,a)=>∃b,err=.iface 1 (.ptr b 0 0)/\b<nx/\b≠kid/\ah hp b=.var [.pv (.int .i64 a),.pv (.int .i64 c)]
theorem sY.mono{err:AV}{hp hp':Hl}{o:Option (Int×Int)}{kid nx cE:Nat}(h:sY err hp o kid nx)(h1:∀j,j<nx->j≠kid->ah hp' j=ah hp j)(h2:nx<=cE):sY err hp' o kid cE:=by
 cases o with
 |none=>exact h
 |some q =>
  obtain⟨c,a⟩:=q;obtain⟨b,e1,e2,e3,e4⟩:=h;exact⟨b,e1,by omega,e3,by rw[h1 b e2 e3,e4]⟩
def D6(T:cL)(g:Nat)(cs:List AV)(p:PV)(hp:Hl)(nx:Nat):Prop:=T.raw g=true/\∀hp' cE,nx<=cE->(∀k,k<nx->ah hp' k=ah hp k)->D T g cs hp' cE=some (.pv p,hp',cE)
section
variable{T:cL}
set_option maxRecDepth 100000 in
set_option maxHeartbeats 4000000 in
theorem zc(TR:pP T 16 f16)(Mv:Std T 86 f86)(hA:vU T 266)(kid:Nat)(a n last c:Int)(err fv:AV)(g:Nat)(cs:List AV)(hp:Hl)(nx:Nat)(o:Option (Int×Int))(hf:aT fv=some (g,[],cs))(hk:kid<nx)
    (hb:ah hp kid=.var [.pv (.int .i64 a),.pv (.int .i64 last),err]) (ho:D6 T g cs (jG c) hp nx) (hE:sY err hp o kid nx) (h0:0<=a) (h1:a<=2^30) :
    ∃v hp' cE,D T 16 [.ptr kid 0 0,.pv (.int .i64 n),fv] hp nx=some (v,hp',cE)/\∃Ac,nx<=cE/\ah hp' kid=.var [.pv (.int .i64 (a+1)),.pv (.int .i64 n),Ac]/\sY Ac hp' (o.or (jl a n last c)) kid cE/\∀j,j<nx->j≠kid->ah hp' j=ah hp j:=by
 refine xB TR rfl ?_;have ki:=Pt Mv n last;have hw:IntKind.i64.wrap (a+1)=a+1:=by rw[f9] <;>omega
 have e1:¬nx=kid:=by omega
 have e2:¬nx+1=kid:=by omega
 have f1:¬kid=nx:=by omega
 have f2:¬kid=nx+1:=by omega
 cases o with
 |some q =>
  obtain⟨c0,a0⟩:=q;obtain⟨b,rfl,b1,b2,b3⟩:=hE;simp only[f16,rL',aa,simprocAttr,hb,hw];simp only[ks,jK,rL',aa,simprocAttr];refine⟨.iface 1 (.ptr b 0 0),rfl,⟨b,rfl,b1,b2,?_⟩,fun j hj ew=>?_⟩
  ·have:¬kid=b:=fun h=>b2 h.symm;simp only[aj,Nat.reduceEqDiff,this,b3]
  ·have:¬kid=j:=fun h=>ew h.symm;simp only[this,aI]
 |none =>
  have tf:err=.pv .dJ:=hE;subst tf;have fin:∀cc,fL n last c=cc->cc≠0->(none:Option (Int×Int)).or (jl a n last c)=some (cc,a):=fun cc h1 h2=>by
   unfold jl;rw[h1,aW h2];rfl
  by_cases hi:vP n last=0
  ·have hl:fL n last c=c:=by unfold fL;rw[aw (by simpa using hi)]
   rw[hi,gJ]at ki;simp only[f16,rL',aa,simprocAttr,hb,ki.call,hf,Ao];rw[dr ho.1 (by simpa only[bH]using ho.2 hp nx (ax _) (fun _ _=>rfl))];by_cases hc:c=0
   ·have hn:(none:Option (Int×Int)).or (jl a n last c)=none:=by
     unfold jl;rw[hl,aw (by simpa using hc)];rfl
    rw[hc,gJ];simp only[rL',aa,simprocAttr,tn hA,hb,e1,hw];simp only[ks,jK,rL',aa,simprocAttr,e1,f1];rw[<-hc,hn];refine⟨.pv .dJ,by omega,rfl,rfl,fun j hj ew=>?_⟩;have g1:¬nx=j:=by omega
    have g2:¬kid=j:=fun h=>ew h.symm;simp only[g1,g2,aI]
   ·have w8:jG c=.iface 0 (.int .i64 c):=aw hc;rw[w8];simp only[rL',aa,simprocAttr];refine(o9 hA (o:=0) ?_).2 ?_
    ·simp only[rL',aa,simprocAttr]
    ·simp only[rL',aa,simprocAttr,hb,e1];refine(cz rfl).2 ?_;simp only[rL',aa,simprocAttr,hb,e1,e2,f1,f2,hw];simp only[ks,jK,rL',aa,simprocAttr,e1,e2,f1,f2];rw[fin c hl hc];refine⟨.iface 1 (.ptr (nx+1) 0 0),by omega,rfl,⟨nx+1,rfl,by omega,by omega,?_⟩,fun j hj ew=>?_⟩
     ·simp only[aj,Nat.reduceEqDiff,f2]
     ·have g1:¬nx=j:=by omega
      have g3:¬nx+1=j:=by omega
      have g2:¬kid=j:=fun h=>ew h.symm;simp only[g1,g2,g3,aI]
  ·have hl:fL n last c=vP n last:=by unfold fL;rw[aW hi]
   have w8:jG (vP n last)=.iface 0 (.int .i64 (vP n last)):=aw hi;rw[w8]at ki;simp only[f16,rL',aa,simprocAttr,hb,ki.call];refine(o9 hA (o:=0) ?_).2 ?_
   ·simp only[rL',aa,simprocAttr]
   ·simp only[rL',aa,simprocAttr,hb,e1];refine(cz rfl).2 ?_;simp only[rL',aa,simprocAttr,hb,e1,e2,f1,f2,hw];simp only[ks,jK,rL',aa,simprocAttr,e1,e2,f1,f2];rw[fin _ hl hi];refine⟨.iface 1 (.ptr (nx+1) 0 0),by omega,rfl,⟨nx+1,rfl,by omega,by omega,?_⟩,fun j hj ew=>?_⟩
    ·simp only[aj,Nat.reduceEqDiff,f2]
    ·have g1:¬nx=j:=by omega
     have g3:¬nx+1=j:=by omega
     have g2:¬kid=j:=fun h=>ew h.symm;simp only[g1,g2,g3,aI]
end
end
section
def fU{α:Type}(cw own:α->Int):Int->Int->List α->Option (Int×Int)
 |_,_,[]=>none
 |last,a,x::r=>(jl a (cw x) last (own x)).or (fU cw own (cw x) (a+1) r)
def jQ:Option (Int×Int)->PV
 |none=>.dJ
 |some (c,a)=>if a<0 then cf c else gk a c
def kJ(s:bc):Bool:=decide (1<=s.nodes.length)&&(decide (s.nodes.length<=8)&&(decide (s.aU.length<=8)&&decide (s.pods.length<=12)))
def gq(s:bc):Option (Int×Int):=if kJ s=true then((fU Node.id da 0 0 s.nodes).or (fU fD.id cY 0 s.nodes.length s.aU)).or (fU dx.id (ej s) 0 ((s.nodes.length:Int)+s.aU.length) s.pods)else some (3,-1)
structure zI(T:cL):Prop where
 Nx:pP T 16 f16
 Mv:Std T 86 f86
 hA:vU T 266
 T6:pP T 77 f77
 T7:pP T 78 f78
 T8:pP T 79 f79
 J4:Std T 85 f85
 RD:Std T 87 f87
 RE:Std T 88 f88
 RF:Std T 89 f89
 DI:Std T 81 f81
 Kc:Std T 82 f82
 hF:Mb T
 Ud:Std T 76 f76
section
variable{T:cL}
theorem M7{n:Nat}{f:bg}{args:List AV}{hp hp':Hl}{nx cE:Nat}{v:AV}(S:pP T n f)(hN:Nat.ble args.length f.N=true)(h:Wp T false f.body ⟨fy 0 args,hp,nx⟩ (ks f.res (fun v1 h1 n1=>v1=v/\h1=hp'/\n1=cE))):D T n args hp nx=some (v,hp',cE):=by
 obtain⟨v1,h1,n1,e,rfl,rfl,rfl⟩:=xB S hN h;exact e
theorem Sp(S:zI T)(n:Node)(hp:Hl)(nx x:Nat)(hx:x<nx)(hb:ah hp x=.var (dK (bB n))):D6 T 77 [.ptr x 0 0] (jG (da n)) hp nx:=by
 refine⟨S.T6.raw,fun hp' cE h1 h2=>M7 S.T6 rfl ?_⟩;have k:=GP S.RE S.hF n;have Ay:=(h2 x hx).trans hb;simp only[bB,dK]at Ay k;simp only[f77,rL',aa,simprocAttr,Ay,k.call];simp only[ks,jK,rL',aa,simprocAttr]
theorem Sq(S:zI T)(n:fD)(hp:Hl)(nx x:Nat)(hx:x<nx)(hb:ah hp x=.var (dK (bN n))):D6 T 78 [.ptr x 0 0] (jG (cY n)) hp nx:=by
 refine⟨S.T7.raw,fun hp' cE h1 h2=>M7 S.T7 rfl ?_⟩;have k:=GO S.RD S.J4 n;have Ay:=(h2 x hx).trans hb;simp only[bN,dK]at Ay k;simp only[f78,rL',aa,simprocAttr,Ay,k.call];simp only[ks,jK,rL',aa,simprocAttr]
theorem Sr(S:zI T)(s:bc)(hl:s.aU.length<=2^30)(hn:s.nodes.length<=2^30)(p:dx)(hp:Hl)(nx x:Nat)(h0:0<nx)(hx:x<nx)(hs:ah hp 0=.var [.pv (.slice (s.nodes.map bB)),.pv (.slice (s.aU.map bN)),.pv (.slice (s.pods.map aJ))])
    (hb:ah hp x=.var (dK (aJ p))):D6 T 79 [.ptr 0 0 0,.ptr x 0 0] (jG (ej s p)) hp nx:=by
 refine⟨S.T8.raw,fun hp' cE h1 h2=>M7 S.T8 rfl ?_⟩;have k:=JG S.RF S.J4 S.DI S.Kc s p hl hn;have Ay:=(h2 x hx).trans hb;have qT:=(h2 0 h0).trans hs;simp only[aJ,dK,aD]at Ay k;simp only[f79,rL',aa,simprocAttr,Ay,qT,k.call];simp only[ks,jK,rL',aa,simprocAttr]
theorem JD(S:zI T)(s:bc)(hn:s.nodes.length<=2^28)(hl:s.aU.length<=2^28)(Bw:s.pods.length<=2^28)(a0:Int)(G4:0<=a0)(OJ:a0<=2^29)(Q:Exit->St->Prop)(gS:Option (Int×Int))
    (bS:∀fr hp nx last err,2<=nx->look fr 1=.ptr 0 0 0->look fr 3=.ptr 1 0 0->ah hp 0=.var [.pv (.slice (s.nodes.map bB)),.pv (.slice (s.aU.map bN)),.pv (.slice (s.pods.map aJ))] ->
     ah hp 1=.var [.pv (.int .i64 (a0+(s.nodes.length:Int))),.pv (.int .i64 last),err]->sY err hp gS 1 nx->Q (.exit 0) ⟨fr,hp,nx⟩) :
    ∀(rest:List Node) (i:Nat) (last:Int) (o:Option (Int×Int)) (err:AV),s.nodes.drop i=rest->i<=s.nodes.length->o.or (fU Node.id da last (a0+i) rest)=gS->∀(fr:List (Nat×AV)) (hp:Hl) (nx:Nat),2<=nx->look fr 1=.ptr 0 0 0->look fr 3=.ptr 1 0 0 ->
     ah hp 0=.var [.pv (.slice (s.nodes.map bB)),.pv (.slice (s.aU.map bN)),.pv (.slice (s.pods.map aJ))]->ah hp 1=.var [.pv (.int .i64 (a0+i)),.pv (.int .i64 last),err]->sY err hp o 1 nx ->
     look fr 36=.pv (.slice (s.nodes.map bB))->look fr 37=.pv (.int .i64 s.nodes.length)->look fr 38=.pv (.int .i64 i)->Wp T false (.loop Du) ⟨fr,hp,nx⟩ Q:=by
 intro rest;induction rest with
 |nil =>
  intro i last o err hd hi ho fr hp nx gR g1 g3 b0 b1 hE hA hB hI;have hlen:=drop_nil hd hi;simp only[fU,Option.or_none]at ho;subst ho;rw[ay,aY Du.eq_1];simp only[rL',aa,simprocAttr,hA,hB,hI,hlen,aR];refine bS _ _ _ last err gR ?_ ?_ b0 ?_ hE
  all_goals try simp only[aj,Nat.reduceEqDiff,g1,g3]
  rw[b1,hlen]
 |cons x r ih =>
  intro i last o err hd hi ho fr hp nx gR g1 g3 b0 b1 hE hA hB hI;obtain⟨aK,hlt,hw,di,cS,Bu⟩:=drop_cons hd (by omega);have n0:¬nx=0:=by omega
  have n1:¬nx=1:=by omega
  have wS:(o.or (jl (a0+i) x.id last (da x))).or (fU Node.id da x.id (a0+((i+1:Nat):Int)) r)=gS:=by
   rw[<-ho,Option.or_assoc,fU,show a0+((i+1:Nat):Int)=a0+i+1 by omega]
  rw[ay,aY Du.eq_1];simp only[rL',aa,simprocAttr,g1,g3,hA,hB,hI,hlt,aK,bB,n0,n1,mkFun,n9];obtain⟨v,hp',cE,e,Ac,q1,q2,q3,q4⟩:=zc S.Nx S.Mv S.hA 1 (a0+i) x.id last (da x) err (.func 77 [] [.ptr nx 0 0]) 77 [.ptr nx 0 0] ((nx,.var (dK (bB x)))::(nx,.var [.pv (.int .i64 0),.pv (.int .i64 0),.pv (.int .u64 0),.pv (.int .u64 0),.pv (.int .u64 0),.pv (.int .u64 0),.pv (.int .u64 0),.pv (.int .u64 0),.pv (.int .u64 0),.pv (.int .u64 0)])::hp) (nx+1) o rfl (by omega) (by simp only[aj,Nat.reduceEqDiff,n1,b1]) (Sp S x _ _ nx (by omega) (by simp only[aj,Nat.reduceEqDiff])) (hE.mono (fun j hj ew=>by simp only[aj,Nat.reduceEqDiff,show ¬nx=j by omega]) (by omega)) (by omega) (by omega);rw[dr S.Nx.raw e];simp only[rL',aa,simprocAttr,hI,hw];refine ih (i+1) x.id _ Ac di cS wS _ _ _ (by omega) ?_ ?_ ?_ ?_ q3 ?_ ?_ ?_
  all_goals try simp only[aj,Nat.reduceEqDiff,g1,g3,hA,hB]
  ·rw[q4 0 (by omega) (by omega)];simp only[aj,Nat.reduceEqDiff,n0,b0]
  ·rw[q2,show a0+((i+1:Nat):Int)=a0+i+1 by omega]
theorem check_1(S:zI T)(s:bc)(hn:s.nodes.length<=2^28)(hl:s.aU.length<=2^28)(Bw:s.pods.length<=2^28)(a0:Int)(G4:0<=a0)(OJ:a0<=2^29)(Q:Exit->St->Prop)(gS:Option (Int×Int))
    (bS:∀fr hp nx last err,2<=nx->look fr 1=.ptr 0 0 0->look fr 3=.ptr 1 0 0->ah hp 0=.var [.pv (.slice (s.nodes.map bB)),.pv (.slice (s.aU.map bN)),.pv (.slice (s.pods.map aJ))] ->
     ah hp 1=.var [.pv (.int .i64 (a0+(s.aU.length:Int))),.pv (.int .i64 last),err]->sY err hp gS 1 nx->Q (.exit 2) ⟨fr,hp,nx⟩) :
    ∀(rest:List fD) (i:Nat) (last:Int) (o:Option (Int×Int)) (err:AV),s.aU.drop i=rest->i<=s.aU.length->o.or (fU fD.id cY last (a0+i) rest)=gS->∀(fr:List (Nat×AV)) (hp:Hl) (nx:Nat),2<=nx->look fr 1=.ptr 0 0 0->look fr 3=.ptr 1 0 0 ->
     ah hp 0=.var [.pv (.slice (s.nodes.map bB)),.pv (.slice (s.aU.map bN)),.pv (.slice (s.pods.map aJ))]->ah hp 1=.var [.pv (.int .i64 (a0+i)),.pv (.int .i64 last),err]->sY err hp o 1 nx ->
     look fr 52=.pv (.slice (s.aU.map bN))->look fr 53=.pv (.int .i64 s.aU.length)->look fr 54=.pv (.int .i64 i)->Wp T false (.loop Dv) ⟨fr,hp,nx⟩ Q:=by
 intro rest;induction rest with
 |nil =>
  intro i last o err hd hi ho fr hp nx gR g1 g3 b0 b1 hE hA hB hI;have hlen:=drop_nil hd hi;simp only[fU,Option.or_none]at ho;subst ho;rw[ay,aY Dv.eq_1];simp only[rL',aa,simprocAttr,hA,hB,hI,hlen,aR];refine bS _ _ _ last err gR ?_ ?_ b0 ?_ hE
  all_goals try simp only[aj,Nat.reduceEqDiff,g1,g3]
  rw[b1,hlen]
 |cons x r ih =>
  intro i last o err hd hi ho fr hp nx gR g1 g3 b0 b1 hE hA hB hI;obtain⟨aK,hlt,hw,di,cS,Bu⟩:=drop_cons hd (by omega);have n0:¬nx=0:=by omega
  have n1:¬nx=1:=by omega
  have wS:(o.or (jl (a0+i) x.id last (cY x))).or (fU fD.id cY x.id (a0+((i+1:Nat):Int)) r)=gS:=by
   rw[<-ho,Option.or_assoc,fU,show a0+((i+1:Nat):Int)=a0+i+1 by omega]
  rw[ay,aY Dv.eq_1];simp only[rL',aa,simprocAttr,g1,g3,hA,hB,hI,hlt,aK,bN,n0,n1,mkFun,n9];obtain⟨v,hp',cE,e,Ac,q1,q2,q3,q4⟩:=zc S.Nx S.Mv S.hA 1 (a0+i) x.id last (cY x) err (.func 78 [] [.ptr nx 0 0]) 78 [.ptr nx 0 0] ((nx,.var (dK (bN x)))::(nx,.var [.pv (.int .i64 0),.pv (.bool false),.pv (.int .i64 0),.pv (.int .i64 0),.pv (.int .i64 0)])::hp) (nx+1) o rfl (by omega) (by simp only[aj,Nat.reduceEqDiff,n1,b1]) (Sq S x _ _ nx (by omega) (by simp only[aj,Nat.reduceEqDiff])) (hE.mono (fun j hj ew=>by simp only[aj,Nat.reduceEqDiff,show ¬nx=j by omega]) (by omega)) (by omega) (by omega);rw[dr S.Nx.raw e];simp only[rL',aa,simprocAttr,hI,hw];refine ih (i+1) x.id _ Ac di cS wS _ _ _ (by omega) ?_ ?_ ?_ ?_ q3 ?_ ?_ ?_
  all_goals try simp only[aj,Nat.reduceEqDiff,g1,g3,hA,hB]
  ·rw[q4 0 (by omega) (by omega)];simp only[aj,Nat.reduceEqDiff,n0,b0]
  ·rw[q2,show a0+((i+1:Nat):Int)=a0+i+1 by omega]
theorem JE(S:zI T)(s:bc)(hn:s.nodes.length<=2^28)(hl:s.aU.length<=2^28)(Bw:s.pods.length<=2^28)(a0:Int)(G4:0<=a0)(OJ:a0<=2^29)(Q:Exit->St->Prop)(gS:Option (Int×Int))
    (bS:∀fr hp nx last err,2<=nx->look fr 1=.ptr 0 0 0->look fr 3=.ptr 1 0 0->ah hp 0=.var [.pv (.slice (s.nodes.map bB)),.pv (.slice (s.aU.map bN)),.pv (.slice (s.pods.map aJ))] ->
     ah hp 1=.var [.pv (.int .i64 (a0+(s.pods.length:Int))),.pv (.int .i64 last),err]->sY err hp gS 1 nx->Q (.exit 4) ⟨fr,hp,nx⟩) :
    ∀(rest:List dx) (i:Nat) (last:Int) (o:Option (Int×Int)) (err:AV),s.pods.drop i=rest->i<=s.pods.length->o.or (fU dx.id (ej s) last (a0+i) rest)=gS->∀(fr:List (Nat×AV)) (hp:Hl) (nx:Nat),2<=nx->look fr 1=.ptr 0 0 0->look fr 3=.ptr 1 0 0 ->
     ah hp 0=.var [.pv (.slice (s.nodes.map bB)),.pv (.slice (s.aU.map bN)),.pv (.slice (s.pods.map aJ))]->ah hp 1=.var [.pv (.int .i64 (a0+i)),.pv (.int .i64 last),err]->sY err hp o 1 nx ->
     look fr 68=.pv (.slice (s.pods.map aJ))->look fr 69=.pv (.int .i64 s.pods.length)->look fr 70=.pv (.int .i64 i)->Wp T false (.loop Dw) ⟨fr,hp,nx⟩ Q:=by
 intro rest;induction rest with
 |nil =>
  intro i last o err hd hi ho fr hp nx gR g1 g3 b0 b1 hE hA hB hI;have hlen:=drop_nil hd hi;simp only[fU,Option.or_none]at ho;subst ho;rw[ay,aY Dw.eq_1];simp only[rL',aa,simprocAttr,hA,hB,hI,hlen,aR];refine bS _ _ _ last err gR ?_ ?_ b0 ?_ hE
  all_goals try simp only[aj,Nat.reduceEqDiff,g1,g3]
  rw[b1,hlen]
 |cons x r ih =>
  intro i last o err hd hi ho fr hp nx gR g1 g3 b0 b1 hE hA hB hI;obtain⟨aK,hlt,hw,di,cS,Bu⟩:=drop_cons hd (by omega);have n0:¬nx=0:=by omega
  have n1:¬nx=1:=by omega
  have wS:(o.or (jl (a0+i) x.id last ((ej s) x))).or (fU dx.id (ej s) x.id (a0+((i+1:Nat):Int)) r)=gS:=by
   rw[<-ho,Option.or_assoc,fU,show a0+((i+1:Nat):Int)=a0+i+1 by omega]
  rw[ay,aY Dw.eq_1];simp only[rL',aa,simprocAttr,g1,g3,hA,hB,hI,hlt,aK,aJ,n0,n1,mkFun,n9];obtain⟨v,hp',cE,e,Ac,q1,q2,q3,q4⟩:=zc S.Nx S.Mv S.hA 1 (a0+i) x.id last ((ej s) x) err (.func 79 [] [.ptr 0 0 0,.ptr nx 0 0]) 79 [.ptr 0 0 0,.ptr nx 0 0] ((nx,.var (dK (aJ x)))::(nx,.var [.pv (.int .i64 0),.pv (.int .i64 0),.pv (.int .i64 0),.pv (.int .u64 0),.pv (.int .u64 0),.pv (.int .u64 0),.pv (.int .u64 0),.pv (.int .i64 0)])::hp) (nx+1) o rfl (by omega) (by simp only[aj,Nat.reduceEqDiff,n1,b1]) (Sr S s (by omega) (by omega) x _ _ nx (by omega) (by omega) (by simp only[aj,Nat.reduceEqDiff,n0,b0]) (by simp only[aj,Nat.reduceEqDiff])) (hE.mono (fun j hj ew=>by simp only[aj,Nat.reduceEqDiff,show ¬nx=j by omega]) (by omega)) (by omega) (by omega);rw[dr S.Nx.raw e];simp only[rL',aa,simprocAttr,hI,hw];refine ih (i+1) x.id _ Ac di cS wS _ _ _ (by omega) ?_ ?_ ?_ ?_ q3 ?_ ?_ ?_
  all_goals try simp only[aj,Nat.reduceEqDiff,g1,g3,hA,hB]
  ·rw[q4 0 (by omega) (by omega)];simp only[aj,Nat.reduceEqDiff,n0,b0]
  ·rw[q2,show a0+((i+1:Nat):Int)=a0+i+1 by omega]
end
end
end Go.Proofs.YtkjehofblipcaaaGreatDoor.Ab
