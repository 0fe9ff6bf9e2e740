import PyProof.Rows.All
import Wide.All
import OpenK.AllK
import Wide.FinOn
import Lean
import PySem.Challenge.RW_on0350_01
set_option Elab.async false
set_option backward.match.sparseCases false
set_option genSizeOf false
set_option tactic.hygienic false
set_option maxRecDepth 100000
set_option maxHeartbeats 4000000
set_option genSizeOfSpec false
set_option linter.all false
section
section
namespace Mine.Internal
open PySem
inductive dk{A1 A2:Type}(P:A1→A2→Prop):Prop
 |mk (a1:A1)(a2:A2)(h:P a1 a2):dk P
inductive iX{A1 A2 A3:Type}(P:A1→A2→A3→Prop):Prop
 |mk (a1:A1)(a2:A2)(a3:A3)(h:P a1 a2 a3):iX P
inductive jM{A1 A2 A3 A4:Type}(P:A1→A2→A3→A4→Prop):Prop
 |mk (a1:A1)(a2:A2)(a3:A3)(a4:A4)(h:P a1 a2 a3 a4):jM P
inductive zZ{A1 A2 A3 A4 A5:Type}(P:A1→A2→A3→A4→A5→Prop):Prop
 |mk (a1:A1)(a2:A2)(a3:A3)(a4:A4)(a5:A5)(h:P a1 a2 a3 a4 a5):zZ P
inductive F6 {A1 A2 A3 A4 A5 A6:Type}(P:A1→A2→A3→A4→A5→A6→Prop):Prop
 |mk (a1:A1)(a2:A2)(a3:A3)(a4:A4)(a5:A5)(a6:A6)(h:P a1 a2 a3 a4 a5 a6):F6 P
inductive Ig{A1 A2 A3 A4 A5 A6 A7:Type}(P:A1→A2→A3→A4→A5→A6→A7→Prop):Prop
 |mk (a1:A1)(a2:A2)(a3:A3)(a4:A4)(a5:A5)(a6:A6)(a7:A7)(h:P a1 a2 a3 a4 a5 a6 a7):Ig P
inductive HU{A1 A2 A3 A4 A5 A6 A7 A8 A9:Type}(P:A1→A2→A3→A4→A5→A6→A7→A8→A9→Prop):Prop
 |mk (a1:A1)(a2:A2)(a3:A3)(a4:A4)(a5:A5)(a6:A6)(a7:A7)(a8:A8)(a9:A9)(h:P a1 a2 a3 a4 a5 a6 a7 a8 a9):HU P
inductive Dh{A1 A2 A3 A4 A5 A6 A7 A8 A9 A10 A11 A12 A13 A14:Type}(P:A1→A2→A3→A4→A5→A6→A7→A8→A9→A10→A11→A12→A13→A14→Prop):Prop
 |mk (a1:A1)(a2:A2)(a3:A3)(a4:A4)(a5:A5)(a6:A6)(a7:A7)(a8:A8)(a9:A9)(a10:A10)(a11:A11)(a12:A12)(a13:A13)(a14:A14)(h:P a1 a2 a3 a4 a5 a6 a7 a8 a9 a10 a11 a12 a13 a14):Dh P
inductive bx(P1 P2 P3:Prop):Prop
 |mk (h1:P1)(h2:P2)(h3:P3):bx P1 P2 P3
inductive cC(P1 P2 P3 P4:Prop):Prop
 |mk (h1:P1)(h2:P2)(h3:P3)(h4:P4):cC P1 P2 P3 P4
inductive nV(P1 P2 P3 P4 P5:Prop):Prop
 |mk (h1:P1)(h2:P2)(h3:P3)(h4:P4)(h5:P5):nV P1 P2 P3 P4 P5
inductive p8 (P1 P2 P3 P4 P5 P6:Prop):Prop
 |mk (h1:P1)(h2:P2)(h3:P3)(h4:P4)(h5:P5)(h6:P6):p8 P1 P2 P3 P4 P5 P6
inductive xW(P1 P2 P3 P4 P5 P6 P7:Prop):Prop
 |mk (h1:P1)(h2:P2)(h3:P3)(h4:P4)(h5:P5)(h6:P6)(h7:P7):xW P1 P2 P3 P4 P5 P6 P7
inductive Di(P1 P2 P3 P4 P5 P6 P7 P8:Prop):Prop
 |mk (h1:P1)(h2:P2)(h3:P3)(h4:P4)(h5:P5)(h6:P6)(h7:P7)(h8:P8):Di P1 P2 P3 P4 P5 P6 P7 P8
inductive MV where
 |none
 |bool (b:Bool)
 |int (i:Int)
 |str (k:Nat)
 |bytes (b:List UInt8)
 |ref (n:Nat)
 |tup (vs:List MV)
 |rng (a b:Int)
 |frz (vs:List MV)
 |fn (f:Nat)
 |cls (c:Nat)
 |unb
inductive MO where
 |inst (c:Nat)(d:Nat)
 |attrs (fs:List (Nat×MV))
 |list (xs:List MV)
 |dictS (es:List (Nat×MV))
 |dictI (es:List (Int×MV))
 |barr (b:List UInt8)
inductive fz where|add|sub|mul|fdiv|fmod|band|bor|pow
 deriving DecidableEq
inductive jY where|eq|ne|lt|le|gt|ge|isn|isnn|isin|notin
 deriving DecidableEq
inductive BK where|len|max|min|int|bytes|range|list|barr
 deriving DecidableEq
set_option genInjectivity false
mutual
inductive IE where
 |c (v:MV)
 |l (i:Nat)
 |not (e:IE)
 |and (a b:IE)
 |or (a b:IE)
 |ife (t a b:IE)
 |usub (a:IE)
 |bin (o:fz)(a b:IE)
 |cmp (o:jY)(a b:IE)
 |attr (e:IE)(k:Nat)
 |sub (a b:IE)
 |slc (e lo hi:IE)
 |call (f:Nat)(as:gy)
 |new (c:Nat)(as:gy)
 |meth (o:IE)(m:Nat)(as:gy)
 |bi (b:BK)(as:gy)
 |tup (es:gy)
 |lst (es:gy)
 |dsp (ks:List Nat)(es:gy)
 |comp (elt src cond:IE)(caps:List Nat)
 |tab (f i j:Nat)
inductive gy where
 |nil
 |cons (e:IE)(es:gy)
end
inductive IT where
 |loc (i:Nat)
 |attr (e:IE)(k:Nat)
 |sub (a b:IE)
mutual
inductive IS where
 |assign (t:IT)(e:IE)
 |assignT (ts:List IT)(e:IE)
 |augL (i:Nat)(o:fz)(e:IE)
 |augA (b:IE)(k:Nat)(o:fz)(e:IE)
 |ite (t:IE)(a b:fY)
 |whil (t:IE)(a:fY)
 |forr (ts:List Nat)(single:Bool)(e:IE)(a:fY)
 |ret (e:IE)
 |ex (e:IE)
 |cont
 |brk
 |bad
inductive fY where
 |nil
 |cons (s:IS)(ss:fY)
end
set_option genInjectivity true
inductive Fl where|next|brk|cont|ret (v:MV)
structure Fn where
 np:Nat
 nl:Nat
 dfl:List MV
 body:fY
noncomputable abbrev Loc:=List MV
noncomputable abbrev HH:=List MO
noncomputable def gR{α:Type}(a b:MV)(f:Int→Int→Option α):Option α:=match a with
 | .int x=>match b with
  | .int y=>f x y
  |_=>none
 |_=>none
noncomputable def xX{α:Type}(a b:MV)(f:Nat→Nat→Option α):Option α:=gR a b fun x y=>match x with
 | .ofNat x=>match y with
  | .ofNat y=>f x y
  |_=>none
 |_=>none
noncomputable def nX(a b:MV):Option Bool:=match a with
 | .none=>match b with
  | .none=>some true
  | .int _=>some false
  |_=>none
 | .int x=>match b with
  | .none=>some false
  | .int y=>some (decide (x=y))
  |_=>none
 | .bool x=>match b with
  | .bool y=>some (x==y)
  |_=>none
 | .str x=>match b with
  | .str y=>some (Nat.beq x y)
  |_=>none
 | .bytes x=>match b with
  | .bytes y=>some (decide (x=y))
  |_=>none
 |_=>none
noncomputable def rl(f:MV→MV→Option Bool):List MV→List MV→Option Bool
 |[],l=>match l with
  |[]=>some true
  |_::_=>none
 |a::as,l=>match l with
  |b::bs=>match f a b with
   |some x=>match rl f as bs with
    |some y=>some (x&&y)
    |none=>none
   |none=>none
  |[]=>none
noncomputable def rm:Nat→MV→MV→Option Bool
 |0,a,b=>nX a b
 |n+1,a,b=>match a with
  | .tup x=>match b with
   | .tup y=>rl (rm n) x y
   |_=>nX a b
  |_=>nX a b
end Mine.Internal
end
section
namespace Mine.Internal
open PySem
noncomputable def Dj(t:List String):List String:= "append" :: "pop" :: "remove" :: "extend" :: "get" :: "state" :: "ring" :: "greatest" :: "estimate" :: "receiver" :: "has_fin" :: "delay" :: "waiting" :: "due" :: "has_gap" ::t
noncomputable def Dk(t:List String):List String:= "mss" :: "most" :: "size" :: "threshold" :: "gathered" :: "duplicates" :: "is_recovering" :: "is_cautious" :: "most_tries" :: "tries" :: "timed_end" :: "timed_at" :: "first" :: "least" :: "mean8" ::t
noncomputable def Dl(t:List String):List String:= "spread4" :: "measured" :: "message" :: "room" :: "held" :: "told_seq" :: "told_ack" :: "iss" :: "una" :: "next" :: "peer" :: "queue" :: "syn_pending" :: "fin_asked" :: "fin_sent" ::t
noncomputable def Dm(t:List String):List String:= "source_port" :: "target_port" :: "seq" :: "ack" :: "flags" :: "window" :: "urgent" :: "options" :: "payload" :: "slots" :: "late" :: "entries" :: "reached" :: "given" :: "send_room" ::t
noncomputable def Dn(t:List String):List String:= "receive_room" :: "first_timeout" :: "least_timeout" :: "most_timeout" :: "ack_delay" :: "time_wait" :: "limits" :: "local" :: "remote" :: "sender" :: "clock" :: "congestion" :: "acks" :: "wheel" :: "error" ::t
noncomputable def Dp(t:List String):List String:= "probes" :: "unanswered" :: "is_nagle" :: "put" :: "make" :: "pieces" :: "bounded" :: "has" :: "arrive" :: "at_once" :: "is_due" :: "parts" :: "ready" :: "assembly" :: "told_edge" ::t
noncomputable def Dq(t:List String):List String:= "fin_at" :: "urgent_at" :: "read" :: "grow" :: "sample" :: "timeout" :: "part" :: "go_on" :: "flight" :: "drop" :: "cancel" :: "keys_until" :: "window_now" :: "start" :: "length" ::t
noncomputable def Dr(t:List String):List String:= "on_octets" :: "forget" :: "offset" :: "missing" :: "should_tell" :: "told_window" :: "let_in" :: "gather" :: "read_place" :: "recovered" :: "slow_start" :: "avoid" :: "waited" :: "plain_timeout" :: "room_left" ::t
noncomputable def Ds(t:List String):List String:= "is_newer" :: "data_sent" :: "unsent" :: "is_fin_due" :: "is_idle_with_more" :: "needs_probe" :: "piece_of" :: "on_sent" :: "sent" :: "time_of" :: "has_holes" :: "due_time" :: "joined" :: "free_edge" :: "note_fin" ::t
noncomputable def Dt(t:List String):List String:= "ahead_of_fin" :: "cut_behind" :: "take" :: "is_empty" :: "row" :: "available" :: "urgent_left" :: "is_fin_acked" :: "usable" :: "may_go" :: "ever_sent" :: "list_of" :: "deadline" :: "merged" :: "__init__" ::t
noncomputable def AQ(t:List String):List String:= "halved" :: "acked" :: "duplicate" :: "timed_out" :: "is_timing" :: "back_off" :: "reset_tries" :: "mean" :: "take_window" :: "ask_fin" :: "is_all_acked" :: "first_piece" :: "reach" :: "back_to" :: "probe" ::t
noncomputable def AR(t:List String):List String:= "next_time" :: "holes" :: "is_over" :: "thinstack.sequence" :: "thinstack.acks" :: "thinstack.congestion" :: "thinstack.retransmit" :: "thinstack.rtt" :: "thinstack.errors" :: "thinstack.send_queue" :: "thinstack.sender" :: "thinstack.octets" :: "thinstack.tcp_segment" :: "thinstack.tcp_states" :: "closed" ::t
noncomputable def AS(t:List String):List String:= "listen" :: "syn sent" :: "syn received" :: "established" :: "fin wait 1" :: "fin wait 2" :: "close wait" :: "closing" :: "last ack" :: "time wait" :: "thinstack.wheel" :: "thinstack.tcb" :: "thinstack.tcp_user" :: "thinstack.tcp_input" :: "thinstack.assembly" ::t
noncomputable def AU(t:List String):List String:= "thinstack.receiver" :: "law_on0350_01" :: "later" :: "reset" :: "abort" :: "have" :: "fin" :: "over" :: "edge" :: "gap" :: "now" :: "a number that does not fit into a segment" :: "connect" :: "syn" :: "syn ack" ::t
noncomputable def AV(t:List String):List String:= "ack of syn" :: "close" :: "ack of fin" :: "fin and ack of fin" :: "time wait over" :: "wait" :: "a queue without room" :: "no such part of the queue" :: "fewer octets than are to go" :: "nothing is sent behind the end" :: "the SYN is acknowledged" :: " does not take: " :: "a connection that is " ::t
noncomputable def Ih:List String:=Dj (Dk (Dl (Dm (Dn (Dp (Dq (Dr (Ds (Dt (AQ (AR (AS (AU (AV []))))))))))))))
noncomputable def nm(k:Nat):Str:=Str.ofString (Ih.getD k "")
noncomputable def xY(t:List (String×MV)):List (String×MV):=("plus",.fn 28)::("distance",.fn 35)::("is_before",.fn 42)::("is_at_most",.fn 49)::("EVERY",.int 2)::("AckPolicy",.cls 109)::("Congestion",.cls 193)::("RetransmitClock",.cls 270)::("RttEstimate",.cls 326)::("SendQueue",.cls 426)::("PeerWindow",.cls 461)::("Sender",.cls 652)::("FIN",.int 1)::("SYN",.int 2)::("ACK",.int 16)::t
noncomputable def xZ(t:List (String×MV)):List (String×MV):=("URG",.int 32)::("Segment",.cls 702)::("mss_option",.fn 720)::("CLOSED",.str 179)::("LISTEN",.str 180)::("SYN_SENT",.str 181)::("SYN_RECEIVED",.str 182)::("ESTABLISHED",.str 183)::("FIN_WAIT_1",.str 184)::("FIN_WAIT_2",.str 185)::("CLOSE_WAIT",.str 186)::("CLOSING",.str 187)::("LAST_ACK",.str 188)::("TIME_WAIT",.str 189)::("follow",.fn 741)::("opening_steps",.fn 727)::("closing_steps",.fn 734)::t
noncomputable def x8 (t:List (String×MV)):List (String×MV):=("may_receive",.fn 748)::("is_sending",.fn 755)::("Wheel",.cls 818)::("RESEND",.int 1)::("PERSIST",.int 2)::("DELAYED",.int 3)::("WAIT",.int 4)::("MOST_WINDOW",.int 65535)::("Limits",.cls 839)::("clock_of",.fn 850)::("Tcb",.cls 882)::("change_state",.fn 893)::("enter_time_wait",.fn 900)::("ack_segment",.fn 907)::("syn_segment",.fn 914)::t
noncomputable def x9 (t:List (String×MV)):List (String×MV):=("flags_of",.fn 921)::("take_asked_fin",.fn 928)::("data_segments",.fn 935)::("output",.fn 942)::("keep_timers",.fn 949)::("probe_wait",.fn 956)::("take_octets",.fn 963)::("end_of_receiving",.fn 970)::("replies",.fn 977)::("Assembly",.cls 1069)::("Receiver",.cls 1203)::("_law_pool",.fn 1214)::("_law_take",.fn 1221)::("_law_one",.fn 1228)::("_law_begun",.fn 1235)::t
noncomputable def ya(t:List (String×MV)):List (String×MV):=("_law_number",.fn 1242)::("_law_awaited",.fn 1249)::("_law_counted",.fn 1256)::("_law_taken",.fn 1261)::("_law_answer",.fn 1268)::("_law_step",.fn 1273)::("_law_read_right",.fn 1280)::("_law_drawn_right",.fn 1287)::("_law_fixed_right",.fn 1294)::("law",.fn 1301)::t
noncomputable def lM:List (String×MV):=xY (xZ (x8 (x9 (ya []))))
noncomputable def jZ:List (Nat×Nat×Nat):=[(109,105,78),(109,84,85),(109,85,92),(109,127,99),(109,131,106),(193,50,134),(426,17,395),(652,98,515),(652,121,529),(652,122,536),(652,123,543),(652,80,586),(652,124,628),(652,125,635),(702,82,685),(702,104,692),(702,139,699),(818,78,775),(818,146,782),(818,100,789),(818,129,796),(882,102,871),(882,79,879),(1069,138,1003),(1069,107,1010),(1069,78,1017),(1069,108,1024),(1069,148,1031),(1069,132,1038),(1069,106,1045),(1069,137,1052),(1069,136,1066),(1203,133,1095),(1203,109,1102),(1203,110,1109),(1203,50,1116),(1203,83,1123),(1203,111,1130),(1203,134,1137),(1203,135,1144),(1203,112,1151),(1203,130,1158),(1203,140,1165),(1203,92,1172),(1203,113,1186),(1203,51,1193),(1203,141,1200)]
noncomputable def t9:List (Nat×Nat×Nat):=[]
noncomputable def j0:List (Nat×Nat):=[(109,11),(109,12),(109,13),(109,14),(193,15),(193,16),(193,17),(193,18),(193,19),(193,20),(193,21),(193,22),(270,8),(270,23),(270,24),(270,25),(270,26),(326,27),(326,28),(326,16),(326,29),(326,30),(326,31),(426,33),(426,34),(461,6),(461,17),(461,16),(461,35),(461,36),(652,37),(652,6),(652,15),(652,38),(652,39),(652,7),(652,40),(652,41),(652,42),(652,43),(652,44),(702,45),(702,46),(702,47),(702,48),(702,49),(702,50),(702,51),(702,52),(702,53),(818,17),(818,54),(818,55),(818,56),(818,57),(818,58),(839,6),(839,15),(839,59),(839,60),(839,61),(839,62),(839,63),(839,23),(839,64),(839,65),(882,66),(882,67),(882,68),(882,5),(882,69),(882,9),(882,70),(882,71),(882,72),(882,73),(882,74),(882,75),(882,76),(882,77),(1069,6),(1069,86),(1203,6),(1203,33),(1203,15),(1203,39),(1203,87),(1203,88),(1203,89),(1203,90),(1203,10),(1203,91)]
noncomputable def Du:List (Nat×Nat×Nat):=[(179,180,180),(179,207,181),(180,207,181),(180,208,182),(181,208,182),(181,209,183),(182,210,183)]
noncomputable def Dv:List (Nat×Nat×Nat):=[(180,211,179),(181,211,179),(182,211,184),(183,211,184),(186,211,188),(182,201,186),(183,201,186),(184,201,187),(185,201,189),(186,201,186),(187,201,187),(188,201,188),(189,201,189),(184,212,185),(187,212,189),(188,212,179),(184,213,189),(189,214,179)]
noncomputable def lN:List (Nat×List (Nat×Nat×Nat)):=[(727,Du),(734,Dv)]
noncomputable def dW:List (Nat×Nat):=[(109,70),(193,127),(270,211),(326,288),(426,388),(461,444),(652,479),(702,678),(818,768),(839,836),(882,864),(1069,991),(1203,1088)]
end Mine.Internal
end
section
section
namespace Mine.Internal
open PySem
structure Cx where
 locs:List Str
 sc:List (Str×NameKind)
noncomputable def il(cx:Cx)(x:Str):Bool:=match cx.sc.lookup x with
 |some .globalImplicit=>true
 |_=>false
noncomputable def j3:Operator→Option fz
 | .Add=>some .add| .Sub=>some .sub| .Mult=>some .mul| .FloorDiv=>some .fdiv| .Mod=>some .fmod
 | .BitAnd=>some .band| .BitOr=>some .bor| .Pow=>some .pow
 |_=>none
noncomputable def nY:CmpOp→Option jY
 | .Eq=>some .eq| .NotEq=>some .ne| .Lt=>some .lt| .LtE=>some .le| .Gt=>some .gt| .GtE=>some .ge
 | .Is=>some .isn| .IsNot=>some .isnn| .In=>some .isin| .NotIn=>some .notin
noncomputable def cb(params:List Str)(names:List (Str×NameKind)):List Str:=
 params++(names.filterMap fun p=>if(p.2== .local||p.2== .cell)&& !params.contains p.1 then some p.1 else none)
noncomputable def cw(len:Nat)(x:Int):Nat:=if x<0 then(x+len).toNat else min x.toNat len
noncomputable def AW:MV→Option (Option Int)
 | .none=>some none
 | .int a=>some (some a)
 |_=>none
noncomputable def mN{α:Type}(l:List α)(lo hi:MV):Option (List α):=match AW lo with
 |some a=>match AW hi with
  |some b=>some (let m:=match b with|none=>l|some b=>l.take (cw l.length b)
           match a with|none=>m|some a=>m.drop (cw l.length a))
  |none=>none
 |none=>none
noncomputable def dB:List (Int×MV)→Int→Option MV
 |[],_=>none
 |(k,v)::r,x=>if k=x then some v else dB r x
noncomputable def iput:List (Int×MV)→Int→MV→List (Int×MV)
 |[],x,w=>[(x,w)]
 |(k,v)::r,x,w=>if k=x then(k,w)::r else(k,v)::iput r x w
noncomputable def idel:List (Int×MV)→Int→List (Int×MV)
 |[],_=>[]
 |(k,v)::r,x=>if k=x then r else(k,v)::idel r x
noncomputable def dS:List (Nat×MV)→Nat→Option MV
 |[],_=>none
 |(k,v)::r,x=>if Nat.beq k x then some v else dS r x
noncomputable def aput:List (Nat×MV)→Nat→MV→List (Nat×MV)
 |[],x,w=>[(x,w)]
 |(k,v)::r,x,w=>if Nat.beq k x then(k,w)::r else(k,v)::aput r x w
noncomputable def ip:List (Nat×Nat×Nat)→Nat→Nat→Option Nat
 |[],_,_=>none
 |(a,b,c)::r,x,y=>if Nat.beq a x&&Nat.beq b y then some c else ip r x y
noncomputable def dC:List (Nat×Nat)→Nat→Option Nat
 |[],_=>none
 |(a,b)::r,x=>if Nat.beq a x then some b else dC r x
noncomputable def sD:List (Nat×Nat)→Nat→Nat→Bool
 |[],_,_=>false
 |(a,b)::r,x,y=>(Nat.beq a x&&Nat.beq b y)||sD r x y
inductive CK where|meth (f:Nat)|prop (g:Nat)|plain|no
noncomputable def ck(c k:Nat):CK:=match ip jZ c k with
 |some f=> .meth f
 |none=>match ip t9 c k with
  |some g=> .prop g
  |none=>if sD j0 c k then .plain else .no
noncomputable def gS:List MV→MV→Option Bool
 |[],_=>some false
 |y::r,x=>match nX y x with
  |some a=>match gS r x with
   |some b=>some (a||b)
   |none=>none
  |none=>none
noncomputable def nZ(a b:Int):Bool:=decide (a.natAbs<2 ^ 64)||decide (b.natAbs<2 ^ 64)
noncomputable def listAt(H:HH)(a:MV):Option (List MV):=match a with
 | .ref x=>match H[x]? with
  |some c=>match c with
   | .list xs=>some xs
   |_=>none
  |none=>none
 |_=>none
noncomputable def ub(a b:MV)(H:HH):Option (MV×HH):=match a with
 | .int x=>match b with
  | .int y=>some (.int (x+y),H)
  |_=>none
 | .bytes x=>match b with
  | .bytes y=>if Nat.ble (x.length+y.length) 1000000 then some (.bytes (x++y),H)else none
  |_=>none
 | .tup x=>match b with
  | .tup y=>if Nat.ble (x.length+y.length) 16384&&Nat.blt 0 x.length&&Nat.blt 0 y.length then some (.tup (x++y),H)else none
  |_=>none
 | .ref x=>match listAt H (.ref x)with
  |some xs=>match listAt H b with
   |some ys=>if Nat.ble (xs.length+ys.length) 1000000 then some (.ref H.length,H++[.list (xs++ys)])else none
   |none=>none
  |none=>none
 |_=>none
noncomputable def cI(o:fz)(a b:MV)(H:HH):Option (MV×HH):=match o with
 | .add=>ub a b H
 | .sub=>gR a b fun x y=>some (.int (x - y),H)
 | .mul=>gR a b fun x y=>if nZ x y then some (.int (x*y),H)else none
 | .fdiv=>gR a b fun x y=>if y=0||decide (1073741824≤y.natAbs)then none else some (.int (x.fdiv y),H)
 | .fmod=>gR a b fun x y=>if y=0 then none else some (.int (x.fmod y),H)
 | .band=>xX a b fun x y=>some (.int (.ofNat (x&&&y)),H)
 | .bor=>xX a b fun x y=>some (.int (.ofNat (x|||y)),H)
 | .pow=>xX a b fun x n=>if Nat.blt x 100&&Nat.blt n 100 then some (.int (Int.pow (.ofNat x) n),H)else none
noncomputable def z5 (H:HH)(a b:MV):Option Bool:=match a with
 | .ref x=>match listAt H (.ref x)with
  |some xs=>match listAt H b with
   |some ys=>if Nat.beq xs.length ys.length then rl (rm 3) xs ys else some false
   |none=>none
  |none=>none
 |a=>rm 3 a b
noncomputable def AX(H:HH)(a b:MV):Option Bool:=match b with
 | .ref x=>match H[x]? with
  |some c=>match c with
   | .list xs=>gS xs a
   | .dictI es=>match a with
    | .int k=>some (dB es k).isSome
    |_=>none
   |_=>none
  |none=>none
 | .tup xs=>gS xs a
 |_=>none
noncomputable def isNone:MV→Option Bool
 | .none=>some true
 | .int _=>some false
 | .ref _=>some false
 | .tup _=>some false
 | .str _=>some false
 | .bytes _=>some false
 | .bool _=>some false
 |_=>none
noncomputable def uc(a b:MV):Option Bool:=match b with
 | .none=>isNone a
 |_=>none
noncomputable def aI(o:jY)(a b:MV)(H:HH):Option Bool:=match o with
 | .eq=>z5 H a b
 | .ne=>(z5 H a b).map (!·)
 | .isin=>AX H a b
 | .notin=>(AX H a b).map (!·)
 | .isn=>uc a b
 | .isnn=>(uc a b).map (!·)
 | .lt=>gR a b fun x y=>some (decide (x<y))
 | .le=>gR a b fun x y=>some (decide (x≤y))
 | .gt=>gR a b fun x y=>some (decide (y<x))
 | .ge=>gR a b fun x y=>some (decide (y≤x))
noncomputable def cJ(n:Nat)(k:Int):Option Nat:=
 if decide (k.natAbs<1000000)then(if 0≤k then(if k<n then some k.toNat else none)else(if 0≤k+n then some (k+n).toNat else none))else none
noncomputable def n3 (xs:List MV)(b:MV):Option MV:=match b with
 | .int k=>match cJ xs.length k with
  |some i=>xs[i]?
  |none=>none
 |_=>none
noncomputable def bN(a b:MV)(H:HH):Option MV:=match a with
 | .ref x=>match H[x]? with
  |some c=>match c with
   | .list xs=>n3 xs b
   | .dictS es=>match b with
    | .str k=>dS es k
    |_=>none
   | .dictI es=>match b with
    | .int k=>dB es k
    |_=>none
   |_=>none
  |none=>none
 | .tup xs=>n3 xs b
 | .frz xs=>n3 xs b
 |_=>none
noncomputable def barrAt(H:HH)(x:Nat):Option (List UInt8):=match H[x]? with
 |some c=>match c with
  | .barr b=>if Nat.ble b.length 1000000 then some b else none
  |_=>none
 |none=>none
noncomputable def dX(a lo hi:MV)(H:HH):Option (MV×HH):=match a with
 | .bytes b=>if Nat.ble b.length 1000000 then(mN b lo hi).map fun r=>(.bytes r,H)else none
 | .ref x=>match barrAt H x with
  |some b=>(mN b lo hi).map fun r=>(.ref H.length,H++[.barr r])
  |none=>none
 |_=>none
noncomputable def dD(a:Nat):Nat→List UInt8
 |0=>[]
 |n+1=>UInt8.ofNat a::dD (a+1) n
noncomputable def one(as:List MV):Option MV:=match as with
 |a::r=>match r with
  |[]=>some a
  |_::_=>none
 |[]=>none
noncomputable def iZ(v:MV)(H:HH):Option Nat:=match v with
 | .bytes x=>some x.length
 | .frz x=>some x.length
 | .ref x=>match H[x]? with
  |some c=>match c with
   | .list xs=>some xs.length
   | .barr xs=>some xs.length
   |_=>none
  |none=>none
 |_=>none
noncomputable def two{α:Type}(as:List MV)(f:MV→MV→Option α):Option α:=match as with
 |a::r=>match one r with
  |some b=>f a b
  |none=>none
 |[]=>none
noncomputable def fA(v:MV)(H:HH):Option (List UInt8):=match v with
 | .bytes x=>some x
 | .ref x=>barrAt H x
 | .rng a c=>match a with
  | .ofNat a=>match c with
   | .ofNat c=>if Nat.ble a c&&Nat.ble c 256 then some (dD a (c - a))else none
   |_=>none
  |_=>none
 |_=>none
noncomputable def gz(a c:Int)(H:HH):Option (MV×HH):=if decide (a.natAbs<2 ^ 40)&&decide (c.natAbs<2 ^ 40)then some (.rng a c,H)else none
noncomputable def cu(fl:Bool)(b:BK)(as:List MV)(H:HH):Option (MV×HH):=match b with
 | .len=>match one as with
  |some v=>match iZ v H with
   |some n=>if Nat.ble n 1000000 then some (.int n,H)else none
   |none=>none
  |none=>none
 | .max=>two as fun x y=>gR x y fun x y=>some (.int (if x<y then y else x),H)
 | .min=>two as fun x y=>gR x y fun x y=>some (.int (if y<x then y else x),H)
 | .int=>match one as with
  |some v=>match v with
   | .int x=>some (.int x,H)
   | .bool x=>some (.int (if x then 1 else 0),H)
   |_=>none
  |none=>none
 | .bytes=>match one as with
  |some v=>match fA v H with
   |some b=>some (.bytes b,H)
   |none=>none
  |none=>none
 | .range=>match one as with
  |some v=>match v with
   | .int a=>gz 0 a H
   |_=>none
  |none=>two as fun x y=>gR x y fun a c=>gz a c H
 | .list=>match one as with
  |some v=>match listAt H v with
   |some xs=>if Nat.ble xs.length 1000000 then some (.ref H.length,H++[.list xs])else none
   |none=>none
  |none=>none
 | .barr=>match as with
  |[]=>if fl then some (.ref H.length,H++[.barr []])else none
  |_::_=>none
noncomputable def ju:List MV→Bool
 |[]=>true
 | .int _::r=>ju r
 |_=>false
noncomputable def gK(k:Int):List MV→Option (List MV)
 | .int x::r=>if x=k then some r else(gK k r).map (.int x:: ·)
 |_=>none
noncomputable def jv(o:MO)(k:Nat):Option Nat:=match o with
 | .list _=>if Nat.blt k 4 then some k else none
 | .dictI _=>if Nat.beq k 1 then some 4 else none
 | .barr _=>if Nat.beq k 3 then some 5 else none
 |_=>none
noncomputable def ro(c n:Nat)(xs:List MV)(v:MV)(H:HH):Option (MV×HH):=match c with
 |0=>if Nat.blt xs.length 1000000 then some (.none,H.set n (.list (xs++[v])))else none
 |1=>match v with
  | .int k=>match decide (k=0)with
   |true=>match xs with
    |x::r=>if Nat.blt r.length 1000000 then some (x,H.set n (.list r))else none
    |[]=>none
   |false=>none
  |_=>none
 |2=>match v with
  | .int k=>if ju xs&&Nat.blt xs.length 1000000 then match gK k xs with
    |some r=>some (.none,H.set n (.list r))
    |none=>none
   else none
  |_=>none
 |3=>match listAt H v with
  |some ys=>if Nat.ble (xs.length+ys.length) 1000000 then some (.none,H.set n (.list (xs++ys)))else none
  |none=>none
 |_=>none
noncomputable def dm(fl:Bool)(c:Nat)(n:Nat)(as:List MV)(H:HH):Option (MV×HH):=match one as with
 |some v=>match H[n]? with
  |some o=>match o with
   | .list xs=>ro c n xs v H
   | .dictI es=>match Nat.beq c 4 with
    |true=>match v with
     | .int k=>if Nat.ble es.length 1000 then match dB es k with
       |some w=>some (w,H.set n (.dictI (idel es k)))
       |none=>none
      else none
     |_=>none
    |false=>none
   | .barr y=>match Nat.beq c 5 with
    |true=>match v with
     | .bytes x=>if fl&&Nat.ble (y.length+x.length) 1000000 then some (.none,H.set n (.barr (y++x)))else none
     |_=>none
    |false=>none
   |_=>none
  |none=>none
 |none=>none
noncomputable def bU(loc:Loc)(i:Nat):Option MV:=match loc[i]? with
 |some .unb=>none
 |r=>r
noncomputable def cz(H:HH)(v:MV):Option (Nat×Nat×Nat):=match v with
 | .ref n=>match H[n]? with
  |some (.inst c d)=>some (n,c,d)
  |_=>none
 |_=>none
noncomputable abbrev eZ:=Bool→Nat→List MV→HH→Option (MV×HH)
noncomputable def jN(loc:Loc):List Nat→Option (List MV)
 |[]=>some []
 |i::r=>match bU loc i,jN loc r with
  |some v,some l=>some (v::l)
  |_,_=>none
noncomputable def itemAt(H:HH)(v:MV)(i:Nat):Option (Option MV):=match v with
 | .ref n=>match H[n]? with
  |some (.list xs)=>some xs[i]?
  |_=>none
 | .tup xs=>some xs[i]?
 | .rng a b=>if decide (a.natAbs<2 ^ 40)&&decide (b.natAbs<2 ^ 40)then some (if a+i<b then some (.int (a+i))else none)else none
 |_=>none
noncomputable def eX{α β γ:Type}(x:Option (α×β))(f:α→β→Option γ):Option γ:=match x with
 |some (a,b)=>f a b
 |none=>none
noncomputable def ud{β γ:Type}(x:Option (MV×β))(f g:β→Option γ):Option γ:=match x with
 |some (.bool true,h)=>f h
 |some (.bool false,h)=>g h
 |_=>none
noncomputable def Dw{γ:Type}(x:Option (Option MV))(z:Option γ)(f:MV→Option γ):Option γ:=match x with
 |none=>none
 |some o=>match o with
  |none=>z
  |some v=>f v
noncomputable def compLoop(test elt:MV→HH→Option (MV×HH))(src:MV)(acc:Nat):Nat→Nat→HH→Option HH
 |0,_,_=>none
 |k+1,i,H=>Dw (itemAt H src i) (some H) fun x=>ud (test x H) (fun H1=>eX (elt x H1) fun v H2=>eX (dm false 0 acc [v] H2) fun _ H3=>compLoop test elt src acc k (i+1) H3) fun H1=>compLoop test elt src acc k (i+1) H1
noncomputable def i2 (a b:Nat):List (Nat×Nat×Nat)→Option Nat→Option Nat
 |[],acc=>acc
 |t::r,acc=>i2 a b r (if Nat.beq t.1 a&&Nat.beq t.2.1 b then some t.2.2 else acc)
noncomputable def tabs:List (Nat×List (Nat×Nat×Nat))→Nat→Option (List (Nat×Nat×Nat))
 |[],_=>none
 |(a,T)::r,f=>if Nat.beq a f then some T else tabs r f
noncomputable def strAt(loc:Loc)(i:Nat):Option Nat:=match bU loc i with
 |some v=>match v with
  | .str k=>some k
  |_=>none
 |none=>none
noncomputable def Dx:Option Nat→MV
 |none=> .none
 |some k=> .str k
noncomputable def tabAt(loc:Loc)(f i j:Nat):Option MV:=match tabs lN f with
 |some T=>match strAt loc i with
  |some a=>match strAt loc j with
   |some b=>some (Dx (i2 a b T none))
   |none=>none
  |none=>none
 |none=>none
mutual
noncomputable def bo(call:eZ)(fl:Bool):IE→Loc→HH→Option (MV×HH)
 | .c v,_,H=>some (v,H)
 | .l i,loc,H=>(bU loc i).map fun v=>(v,H)
 | .not e,loc,H=>ud (bo call fl e loc H) (fun H1=>some (.bool false,H1)) (fun H1=>some (.bool true,H1))
 | .and a b,loc,H=>ud (bo call fl a loc H) (fun H1=>bo call fl b loc H1) (fun H1=>some (.bool false,H1))
 | .or a b,loc,H=>ud (bo call fl a loc H) (fun H1=>some (.bool true,H1)) (fun H1=>bo call fl b loc H1)
 | .ife t a b,loc,H=>ud (bo call fl t loc H) (fun H1=>bo call fl a loc H1) (fun H1=>bo call fl b loc H1)
 | .usub a,loc,H=>eX (bo call fl a loc H) fun v H1=>match v with
  | .int i=>some (.int (-i),H1)
  |_=>none
 | .bin o a b,loc,H=>eX (bo call fl a loc H) fun x H1=>eX (bo call fl b loc H1) fun y H2=>cI o x y H2
 | .cmp o a b,loc,H=>eX (bo call fl a loc H) fun x H1=>eX (bo call fl b loc H1) fun y H2=>(aI o x y H2).map fun r=>(.bool r,H2)
 | .attr e k,loc,H=>eX (bo call fl e loc H) fun v H1=>match cz H1 v with
  |some (_,c,d)=>match ck c k with
   | .prop f=>call false f [v] H1
   | .plain=>match H1[d]? with
    |some (.attrs fs)=>(dS fs k).map fun r=>(r,H1)
    |_=>none
   |_=>none
  |none=>none
 | .sub a b,loc,H=>eX (bo call fl a loc H) fun x H1=>eX (bo call fl b loc H1) fun y H2=>(bN x y H2).map fun r=>(r,H2)
 | .slc e lo hi,loc,H=>eX (bo call fl e loc H) fun x H1=>eX (bo call fl lo loc H1) fun a H2=>eX (bo call fl hi loc H2) fun b H3=>dX x a b H3
 | .call f as,loc,H=>eX (dT call fl as loc H) fun vs H1=>call fl f vs H1
 | .new c as,loc,H=>match dC dW c with
  |some f=>eX (dT call fl as loc H) fun vs H1=>eX (call fl f (.ref (H1.length+1)::vs) (H1++[.attrs [],.inst c H1.length])) fun r H2=>match r with
   | .none=>some (.ref (H1.length+1),H2)
   |_=>none
  |none=>none
 | .meth o m as,loc,H=>eX (bo call fl o loc H) fun v H1=>match v with
  | .ref n=>match H1[n]? with
   |some (.inst c d)=>match ck c m,H1[d]? with
    | .meth f,some (.attrs fs)=>match dS fs m with
     |none=>eX (dT call fl as loc H1) fun vs H2=>call fl f (.ref n::vs) H2
     |some _=>none
    |_,_=>none
   |some o=>match jv o m with
    |some c=>eX (dT call fl as loc H1) fun vs H2=>dm fl c n vs H2
    |none=>none
   |none=>none
  |_=>none
 | .bi b as,loc,H=>eX (dT call fl as loc H) fun vs H1=>cu fl b vs H1
 | .tup es,loc,H=>eX (dT call fl es loc H) fun vs H1=>if Nat.ble vs.length 1000 then some (.tup vs,H1)else none
 | .lst es,loc,H=>eX (dT call fl es loc H) fun vs H1=>if Nat.ble vs.length 1000 then some (.ref H1.length,H1++[.list vs])else none
 | .dsp ks es,loc,H=>eX (dT call false es loc H) fun vs H1=>some (.ref H1.length,H1++[match ks with|[]=> .dictI []|_=> .dictS (ks.zip vs)])
 | .comp elt src cond caps,loc,H=>eX (bo call false src loc H) fun v H1=>(jN loc caps).bind fun cs=>
   (compLoop (fun x h=>bo call false cond (x::cs) h) (fun x h=>bo call false elt (x::cs) h) v H1.length 200 0 (H1++[.list []])).map fun H2=>(.ref H1.length,H2)
 | .tab f i j,loc,H=>(tabAt loc f i j).map fun v=>(v,H)
noncomputable def dT(call:eZ)(fl:Bool):gy→Loc→HH→Option (List MV×HH)
 | .nil,_,H=>some ([],H)
 | .cons e r,loc,H=>eX (bo call fl e loc H) fun v H1=>eX (dT call fl r loc H1) fun vs H2=>some (v::vs,H2)
end
noncomputable def cT(a b v:MV)(H:HH):Option HH:=match a with
 | .ref n=>match H[n]? with
  |some (.list xs)=>match b with
   | .int k=>(cJ xs.length k).map fun i=>H.set n (.list (xs.set i v))
   |_=>none
  |some (.dictS es)=>match b with
   | .str k=>if Nat.ble es.length 1000 then some (H.set n (.dictS (aput es k v)))else none
   |_=>none
  |some (.dictI es)=>match b with
   | .int k=>if Nat.ble es.length 1000 then some (H.set n (.dictI (iput es k v)))else none
   |_=>none
  |_=>none
 |_=>none
noncomputable def setAt(a:MV)(k:Nat)(v:MV)(H:HH):Option HH:=match cz H a with
 |some (_,c,d)=>match ck c k,H[d]? with
  | .plain,some (.attrs fs)=>if Nat.blt k 223&&Nat.blt fs.length 100 then some (H.set d (.attrs (aput fs k v)))else none
  |_,_=>none
 |none=>none
noncomputable def lF(call:eZ)(fl:Bool)(t:IT)(v:MV)(loc:Loc)(H:HH):Option (Loc×HH):=match t with
 | .loc i=>if Nat.blt i loc.length then some (loc.set i v,H)else none
 | .attr e k=>eX (bo call fl e loc H) fun a H1=>(setAt a k v H1).map fun h=>(loc,h)
 | .sub a b=>eX (bo call fl a loc H) fun x H1=>eX (bo call fl b loc H1) fun y H2=>(cT x y v H2).map fun h=>(loc,h)
noncomputable def gT(call:eZ)(fl:Bool):List IT→List MV→Loc→HH→Option (Loc×HH)
 |[],vs,loc,H=>match vs with
  |[]=>some (loc,H)
  |_::_=>none
 |t::ts,vs,loc,H=>match vs with
  |[]=>none
  |v::vs=>eX (lF call fl t v loc H) fun loc1 H1=>gT call fl ts vs loc1 H1
noncomputable def fb:List Nat→List MV→Loc→Option Loc
 |[],vs,loc=>match vs with
  |[]=>some loc
  |_::_=>none
 |i::r,vs,loc=>match vs with
  |[]=>none
  |v::vs=>if Nat.blt i loc.length then fb r vs (loc.set i v)else none
noncomputable def eI(ts:List Nat)(single:Bool)(x:MV)(loc:Loc):Option Loc:=
 if single then fb ts [x] loc else match x with
  | .tup vs=>fb ts vs loc
  |_=>none
noncomputable def ue(o:fz)(old v:MV):Option Int:=match o with
 | .add=>gR old v fun x y=>some (x+y)
 |_=>none
noncomputable def iq(H:HH)(v:MV)(k:Nat):Option MV:=match cz H v with
 |some (_,c,d)=>match ck c k with
  | .plain=>match H[d]? with
   |some (.attrs fs)=>dS fs k
   |_=>none
  |_=>none
 |none=>none
noncomputable def mO{γ:Type}(x:Option (Fl×Loc×HH))(f:Fl→Loc→HH→Option γ):Option γ:=match x with
 |some (a,b,c)=>f a b c
 |none=>none
noncomputable def fS(test:Loc→HH→Option (MV×HH))(body:Loc→HH→Option (Fl×Loc×HH)):Nat→Loc→HH→Option (Fl×Loc×HH)
 |0,_,_=>none
 |k+1,loc,H=>ud (test loc H) (fun H1=>mO (body loc H1) fun f loc2 H2=>match f with
   | .next=>fS test body k loc2 H2
   | .cont=>fS test body k loc2 H2
   | .brk=>some (.next,loc2,H2)
   | .ret v=>some (.ret v,loc2,H2)) (fun H1=>some (.next,loc,H1))
noncomputable def ek(bd:MV→Loc→Option Loc)(body:Loc→HH→Option (Fl×Loc×HH))(src:MV):Nat→Nat→Loc→HH→Option (Fl×Loc×HH)
 |0,_,_,_=>none
 |k+1,i,loc,H=>Dw (itemAt H src i) (some (.next,loc,H)) fun x=>(bd x loc).bind fun loc1=>mO (body loc1 H) fun f loc2 H2=>match f with
  | .next=>ek bd body src k (i+1) loc2 H2
  | .cont=>ek bd body src k (i+1) loc2 H2
  | .brk=>some (.next,loc2,H2)
  | .ret v=>some (.ret v,loc2,H2)
mutual
noncomputable def cU(call:eZ)(fl:Bool):IS→Loc→HH→Option (Fl×Loc×HH)
 | .assign t e,loc,H=>eX (bo call fl e loc H) fun v H1=>eX (lF call fl t v loc H1) fun loc2 H2=>some (.next,loc2,H2)
 | .assignT ts e,loc,H=>eX (bo call fl e loc H) fun v H1=>match v with
  | .tup vs=>eX (gT call fl ts vs loc H1) fun loc2 H2=>some (.next,loc2,H2)
  | .ref n=>match H1[n]? with
   |some (.list vs)=>eX (gT call fl ts vs loc H1) fun loc2 H2=>some (.next,loc2,H2)
   |_=>none
  |_=>none
 | .augL i o e,loc,H=>(bU loc i).bind fun old=>eX (bo call fl e loc H) fun v H1=>(ue o old v).bind fun c=>
   if Nat.blt i loc.length then some (.next,loc.set i (.int c),H1)else none
 | .augA b k o e,loc,H=>eX (bo call fl b loc H) fun ob H1=>(iq H1 ob k).bind fun old=>eX (bo call fl e loc H1) fun v H2=>(ue o old v).bind fun c=>
   (setAt ob k (.int c) H2).map fun H4=>(.next,loc,H4)
 | .ite t a b,loc,H=>ud (bo call fl t loc H) (fun H1=>bQ call fl a loc H1) (fun H1=>bQ call fl b loc H1)
 | .whil t a,loc,H=>fS (fun l h=>bo call false t l h) (fun l h=>bQ call false a l h) 64 loc H
 | .forr ts single e a,loc,H=>eX (bo call fl e loc H) fun v H1=>ek (eI ts single) (fun l h=>bQ call fl a l h) v 64 0 loc H1
 | .ret e,loc,H=>eX (bo call fl e loc H) fun v H1=>some (.ret v,loc,H1)
 | .ex e,loc,H=>eX (bo call fl e loc H) fun _ H1=>some (.next,loc,H1)
 | .cont,loc,H=>some (.cont,loc,H)
 | .brk,loc,H=>some (.brk,loc,H)
 | .bad,_,_=>none
noncomputable def bQ(call:eZ)(fl:Bool):fY→Loc→HH→Option (Fl×Loc×HH)
 | .nil,loc,H=>some (.next,loc,H)
 | .cons s r,loc,H=>mO (cU call fl s loc H) fun f loc1 H1=>match f with
  | .next=>bQ call fl r loc1 H1
  |_=>some (f,loc1,H1)
end
noncomputable def mP(a:List MV):Option MV:=match a with
 |[.str s,.str e]=>if Nat.beq e 201 then(if Nat.beq s 183 then some (.str 186)else if Nat.beq s 184 then some (.str 187)else none)else none
 |_=>none
noncomputable def fZ(call:eZ)(F:Fn)(b:Bool)(args:List MV)(H:HH):Option (MV×HH):=
 if Nat.ble args.length F.np&&Nat.ble (F.np - args.length) F.dfl.length then
  mO (bQ call b F.body (args++F.dfl.drop (F.dfl.length - (F.np - args.length))++List.replicate (F.nl - F.np) .unb) H) fun f _ H1=>match f with
   | .ret v=>some (v,H1)
   | .next=>some (.none,H1)
   |_=>none
 else none
noncomputable def ao(fns:Nat→Option Fn):Nat→eZ
 |0,_,_,_,_=>none
 |n+1,b,f,args,H=>
  if Nat.beq f 741 then(mP args).map fun v=>(v,H)else
  match fns f with
  |none=>none
  |some F=>match args with
   |[]=>eX (fZ (ao fns n) F b [] []) fun v _=>match v with
    | .bool c=>some (.bool c,H)
    |_=>none
   |x::r=>fZ (ao fns n) F b (x::r) H
end Mine.Internal
end
section
set_option genInjectivity false
section
namespace Mine.Internal
namespace ce
noncomputable def v(x:IE):MV:=match x with
 | .c y=>y
 | .l _=> .unb
 | .not _=> .unb
 | .and _ _=> .unb
 | .or _ _=> .unb
 | .ife _ _ _=> .unb
 | .usub _=> .unb
 | .bin _ _ _=> .unb
 | .cmp _ _ _=> .unb
 | .attr _ _=> .unb
 | .sub _ _=> .unb
 | .slc _ _ _=> .unb
 | .call _ _=> .unb
 | .new _ _=> .unb
 | .meth _ _ _=> .unb
 | .bi _ _=> .unb
 | .tup _=> .unb
 | .lst _=> .unb
 | .dsp _ _=> .unb
 | .comp _ _ _ _=> .unb
 | .tab _ _ _=> .unb
noncomputable def k1 (x:IE):Nat:=match x with
 | .c _=>0
 | .l y=>y
 | .not _=>0
 | .and _ _=>0
 | .or _ _=>0
 | .ife _ _ _=>0
 | .usub _=>0
 | .bin _ _ _=>0
 | .cmp _ _ _=>0
 | .attr _ y=>y
 | .sub _ _=>0
 | .slc _ _ _=>0
 | .call y _=>y
 | .new y _=>y
 | .meth _ y _=>y
 | .bi _ _=>0
 | .tup _=>0
 | .lst _=>0
 | .dsp _ _=>0
 | .comp _ _ _ _=>0
 | .tab y _ _=>y
noncomputable def k2 (x:IE):Nat:=match x with
 | .c _=>0
 | .l _=>0
 | .not _=>0
 | .and _ _=>0
 | .or _ _=>0
 | .ife _ _ _=>0
 | .usub _=>0
 | .bin _ _ _=>0
 | .cmp _ _ _=>0
 | .attr _ _=>0
 | .sub _ _=>0
 | .slc _ _ _=>0
 | .call _ _=>0
 | .new _ _=>0
 | .meth _ _ _=>0
 | .bi _ _=>0
 | .tup _=>0
 | .lst _=>0
 | .dsp _ _=>0
 | .comp _ _ _ _=>0
 | .tab _ y _=>y
noncomputable def k3 (x:IE):Nat:=match x with
 | .c _=>0
 | .l _=>0
 | .not _=>0
 | .and _ _=>0
 | .or _ _=>0
 | .ife _ _ _=>0
 | .usub _=>0
 | .bin _ _ _=>0
 | .cmp _ _ _=>0
 | .attr _ _=>0
 | .sub _ _=>0
 | .slc _ _ _=>0
 | .call _ _=>0
 | .new _ _=>0
 | .meth _ _ _=>0
 | .bi _ _=>0
 | .tup _=>0
 | .lst _=>0
 | .dsp _ _=>0
 | .comp _ _ _ _=>0
 | .tab _ _ y=>y
noncomputable def e1 (x:IE):IE:=match x with
 | .c _=> .c .unb
 | .l _=> .c .unb
 | .not y=>y
 | .and y _=>y
 | .or y _=>y
 | .ife y _ _=>y
 | .usub y=>y
 | .bin _ y _=>y
 | .cmp _ y _=>y
 | .attr y _=>y
 | .sub y _=>y
 | .slc y _ _=>y
 | .call _ _=> .c .unb
 | .new _ _=> .c .unb
 | .meth y _ _=>y
 | .bi _ _=> .c .unb
 | .tup _=> .c .unb
 | .lst _=> .c .unb
 | .dsp _ _=> .c .unb
 | .comp y _ _ _=>y
 | .tab _ _ _=> .c .unb
noncomputable def e2 (x:IE):IE:=match x with
 | .c _=> .c .unb
 | .l _=> .c .unb
 | .not _=> .c .unb
 | .and _ y=>y
 | .or _ y=>y
 | .ife _ y _=>y
 | .usub _=> .c .unb
 | .bin _ _ y=>y
 | .cmp _ _ y=>y
 | .attr _ _=> .c .unb
 | .sub _ y=>y
 | .slc _ y _=>y
 | .call _ _=> .c .unb
 | .new _ _=> .c .unb
 | .meth _ _ _=> .c .unb
 | .bi _ _=> .c .unb
 | .tup _=> .c .unb
 | .lst _=> .c .unb
 | .dsp _ _=> .c .unb
 | .comp _ y _ _=>y
 | .tab _ _ _=> .c .unb
noncomputable def e3 (x:IE):IE:=match x with
 | .c _=> .c .unb
 | .l _=> .c .unb
 | .not _=> .c .unb
 | .and _ _=> .c .unb
 | .or _ _=> .c .unb
 | .ife _ _ y=>y
 | .usub _=> .c .unb
 | .bin _ _ _=> .c .unb
 | .cmp _ _ _=> .c .unb
 | .attr _ _=> .c .unb
 | .sub _ _=> .c .unb
 | .slc _ _ y=>y
 | .call _ _=> .c .unb
 | .new _ _=> .c .unb
 | .meth _ _ _=> .c .unb
 | .bi _ _=> .c .unb
 | .tup _=> .c .unb
 | .lst _=> .c .unb
 | .dsp _ _=> .c .unb
 | .comp _ _ y _=>y
 | .tab _ _ _=> .c .unb
noncomputable def o(x:IE):fz:=match x with
 | .c _=> .add
 | .l _=> .add
 | .not _=> .add
 | .and _ _=> .add
 | .or _ _=> .add
 | .ife _ _ _=> .add
 | .usub _=> .add
 | .bin y _ _=>y
 | .cmp _ _ _=> .add
 | .attr _ _=> .add
 | .sub _ _=> .add
 | .slc _ _ _=> .add
 | .call _ _=> .add
 | .new _ _=> .add
 | .meth _ _ _=> .add
 | .bi _ _=> .add
 | .tup _=> .add
 | .lst _=> .add
 | .dsp _ _=> .add
 | .comp _ _ _ _=> .add
 | .tab _ _ _=> .add
noncomputable def co(x:IE):jY:=match x with
 | .c _=> .eq
 | .l _=> .eq
 | .not _=> .eq
 | .and _ _=> .eq
 | .or _ _=> .eq
 | .ife _ _ _=> .eq
 | .usub _=> .eq
 | .bin _ _ _=> .eq
 | .cmp y _ _=>y
 | .attr _ _=> .eq
 | .sub _ _=> .eq
 | .slc _ _ _=> .eq
 | .call _ _=> .eq
 | .new _ _=> .eq
 | .meth _ _ _=> .eq
 | .bi _ _=> .eq
 | .tup _=> .eq
 | .lst _=> .eq
 | .dsp _ _=> .eq
 | .comp _ _ _ _=> .eq
 | .tab _ _ _=> .eq
noncomputable def b(x:IE):BK:=match x with
 | .c _=> .len
 | .l _=> .len
 | .not _=> .len
 | .and _ _=> .len
 | .or _ _=> .len
 | .ife _ _ _=> .len
 | .usub _=> .len
 | .bin _ _ _=> .len
 | .cmp _ _ _=> .len
 | .attr _ _=> .len
 | .sub _ _=> .len
 | .slc _ _ _=> .len
 | .call _ _=> .len
 | .new _ _=> .len
 | .meth _ _ _=> .len
 | .bi y _=>y
 | .tup _=> .len
 | .lst _=> .len
 | .dsp _ _=> .len
 | .comp _ _ _ _=> .len
 | .tab _ _ _=> .len
noncomputable def a1 (x:IE):gy:=match x with
 | .c _=> .nil
 | .l _=> .nil
 | .not _=> .nil
 | .and _ _=> .nil
 | .or _ _=> .nil
 | .ife _ _ _=> .nil
 | .usub _=> .nil
 | .bin _ _ _=> .nil
 | .cmp _ _ _=> .nil
 | .attr _ _=> .nil
 | .sub _ _=> .nil
 | .slc _ _ _=> .nil
 | .call _ y=>y
 | .new _ y=>y
 | .meth _ _ y=>y
 | .bi _ y=>y
 | .tup y=>y
 | .lst y=>y
 | .dsp _ y=>y
 | .comp _ _ _ _=> .nil
 | .tab _ _ _=> .nil
noncomputable def ks(x:IE):List Nat:=match x with
 | .c _=>[]
 | .l _=>[]
 | .not _=>[]
 | .and _ _=>[]
 | .or _ _=>[]
 | .ife _ _ _=>[]
 | .usub _=>[]
 | .bin _ _ _=>[]
 | .cmp _ _ _=>[]
 | .attr _ _=>[]
 | .sub _ _=>[]
 | .slc _ _ _=>[]
 | .call _ _=>[]
 | .new _ _=>[]
 | .meth _ _ _=>[]
 | .bi _ _=>[]
 | .tup _=>[]
 | .lst _=>[]
 | .dsp y _=>y
 | .comp _ _ _ y=>y
 | .tab _ _ _=>[]
noncomputable def rb(x:IE)(t:Nat):IE:=match t with
 |0=> .c (v x)
 |1=> .l (k1 x)
 |2=> .not (e1 x)
 |3=> .and (e1 x) (e2 x)
 |4=> .or (e1 x) (e2 x)
 |5=> .ife (e1 x) (e2 x) (e3 x)
 |6=> .usub (e1 x)
 |7=> .bin (o x) (e1 x) (e2 x)
 |8=> .cmp (co x) (e1 x) (e2 x)
 |9=> .attr (e1 x) (k1 x)
 |10=> .sub (e1 x) (e2 x)
 |11=> .slc (e1 x) (e2 x) (e3 x)
 |12=> .call (k1 x) (a1 x)
 |13=> .new (k1 x) (a1 x)
 |14=> .meth (e1 x) (k1 x) (a1 x)
 |15=> .bi (b x) (a1 x)
 |16=> .tup (a1 x)
 |17=> .lst (a1 x)
 |18=> .dsp (ks x) (a1 x)
 |19=> .comp (e1 x) (e2 x) (e3 x) (ks x)
 |20=> .tab (k1 x) (k2 x) (k3 x)
 |_=>x
theorem eta(x:IE):x=rb x x.ctorIdx:=by cases x<;>rfl
noncomputable def tg(x:IE)(t:Nat):Bool:=Nat.beq x.ctorIdx t
theorem tg_is{x:IE}{t:Nat}(h:tg x t=true):x=rb x t:=(eta x).trans (congrArg (rb x) (Nat.eq_of_beq_eq_true h))
theorem to{x:IE}{t:Nat}{P:IE→Prop}(h:tg x t=true)(q:P (rb x t)):P x:=Eq.subst (motive:=P) (tg_is h).symm q
end ce
namespace cs
noncomputable def tt(x:IS):IT:=match x with
 | .assign y _=>y
 | .assignT _ _=> .loc 0
 | .augL _ _ _=> .loc 0
 | .augA _ _ _ _=> .loc 0
 | .ite _ _ _=> .loc 0
 | .whil _ _=> .loc 0
 | .forr _ _ _ _=> .loc 0
 | .ret _=> .loc 0
 | .ex _=> .loc 0
 | .cont=> .loc 0
 | .brk=> .loc 0
 | .bad=> .loc 0
noncomputable def ts(x:IS):List IT:=match x with
 | .assign _ _=>[]
 | .assignT y _=>y
 | .augL _ _ _=>[]
 | .augA _ _ _ _=>[]
 | .ite _ _ _=>[]
 | .whil _ _=>[]
 | .forr _ _ _ _=>[]
 | .ret _=>[]
 | .ex _=>[]
 | .cont=>[]
 | .brk=>[]
 | .bad=>[]
noncomputable def k1 (x:IS):Nat:=match x with
 | .assign _ _=>0
 | .assignT _ _=>0
 | .augL y _ _=>y
 | .augA _ y _ _=>y
 | .ite _ _ _=>0
 | .whil _ _=>0
 | .forr _ _ _ _=>0
 | .ret _=>0
 | .ex _=>0
 | .cont=>0
 | .brk=>0
 | .bad=>0
noncomputable def o(x:IS):fz:=match x with
 | .assign _ _=> .add
 | .assignT _ _=> .add
 | .augL _ y _=>y
 | .augA _ _ y _=>y
 | .ite _ _ _=> .add
 | .whil _ _=> .add
 | .forr _ _ _ _=> .add
 | .ret _=> .add
 | .ex _=> .add
 | .cont=> .add
 | .brk=> .add
 | .bad=> .add
noncomputable def e1 (x:IS):IE:=match x with
 | .assign _ y=>y
 | .assignT _ y=>y
 | .augL _ _ y=>y
 | .augA _ _ _ y=>y
 | .ite y _ _=>y
 | .whil y _=>y
 | .forr _ _ y _=>y
 | .ret y=>y
 | .ex y=>y
 | .cont=> .c .unb
 | .brk=> .c .unb
 | .bad=> .c .unb
noncomputable def e2 (x:IS):IE:=match x with
 | .assign _ _=> .c .unb
 | .assignT _ _=> .c .unb
 | .augL _ _ _=> .c .unb
 | .augA y _ _ _=>y
 | .ite _ _ _=> .c .unb
 | .whil _ _=> .c .unb
 | .forr _ _ _ _=> .c .unb
 | .ret _=> .c .unb
 | .ex _=> .c .unb
 | .cont=> .c .unb
 | .brk=> .c .unb
 | .bad=> .c .unb
noncomputable def p(x:IS):fY:=match x with
 | .assign _ _=> .nil
 | .assignT _ _=> .nil
 | .augL _ _ _=> .nil
 | .augA _ _ _ _=> .nil
 | .ite _ y _=>y
 | .whil _ y=>y
 | .forr _ _ _ y=>y
 | .ret _=> .nil
 | .ex _=> .nil
 | .cont=> .nil
 | .brk=> .nil
 | .bad=> .nil
noncomputable def q(x:IS):fY:=match x with
 | .assign _ _=> .nil
 | .assignT _ _=> .nil
 | .augL _ _ _=> .nil
 | .augA _ _ _ _=> .nil
 | .ite _ _ y=>y
 | .whil _ _=> .nil
 | .forr _ _ _ _=> .nil
 | .ret _=> .nil
 | .ex _=> .nil
 | .cont=> .nil
 | .brk=> .nil
 | .bad=> .nil
noncomputable def ls(x:IS):List Nat:=match x with
 | .assign _ _=>[]
 | .assignT _ _=>[]
 | .augL _ _ _=>[]
 | .augA _ _ _ _=>[]
 | .ite _ _ _=>[]
 | .whil _ _=>[]
 | .forr y _ _ _=>y
 | .ret _=>[]
 | .ex _=>[]
 | .cont=>[]
 | .brk=>[]
 | .bad=>[]
noncomputable def s(x:IS):Bool:=match x with
 | .assign _ _=>false
 | .assignT _ _=>false
 | .augL _ _ _=>false
 | .augA _ _ _ _=>false
 | .ite _ _ _=>false
 | .whil _ _=>false
 | .forr _ y _ _=>y
 | .ret _=>false
 | .ex _=>false
 | .cont=>false
 | .brk=>false
 | .bad=>false
noncomputable def rb(x:IS)(t:Nat):IS:=match t with
 |0=> .assign (tt x) (e1 x)
 |1=> .assignT (ts x) (e1 x)
 |2=> .augL (k1 x) (o x) (e1 x)
 |3=> .augA (e2 x) (k1 x) (o x) (e1 x)
 |4=> .ite (e1 x) (p x) (q x)
 |5=> .whil (e1 x) (p x)
 |6=> .forr (ls x) (s x) (e1 x) (p x)
 |7=> .ret (e1 x)
 |8=> .ex (e1 x)
 |9=> .cont
 |10=> .brk
 |11=> .bad
 |_=>x
theorem eta(x:IS):x=rb x x.ctorIdx:=by cases x<;>rfl
noncomputable def tg(x:IS)(t:Nat):Bool:=Nat.beq x.ctorIdx t
theorem tg_is{x:IS}{t:Nat}(h:tg x t=true):x=rb x t:=(eta x).trans (congrArg (rb x) (Nat.eq_of_beq_eq_true h))
theorem to{x:IS}{t:Nat}{P:IS→Prop}(h:tg x t=true)(q:P (rb x t)):P x:=Eq.subst (motive:=P) (tg_is h).symm q
end cs
end Mine.Internal
end
end
section
set_option genInjectivity false
section
namespace Mine.Internal
open PySem
noncomputable def i3 (k:Nat)(x:Str):Bool:=Nat.blt k 223&&(nm k==x)
noncomputable def sF(x:Str)(s:String):Bool:=x==Str.ofString s
noncomputable def ir(cx:Cx)(x:Str)(i:Nat):Bool:=(match cx.locs[i]? with|some y=>y==x|none=>false)&&(match cx.sc.lookup x with|some .local|some .cell|some .free=>true|_=>false)&& !sF x "__debug__" && !sF x "__classdict__"
noncomputable def eP(cx:Cx)(x:Str)(i:Nat):Bool:=(match cx.locs[i]? with|some y=>y==x|none=>false)&&(match cx.sc.lookup x with|some .local=>true|_=>false)
noncomputable def rq(a b:MV):Bool:=match a with
 | .fn a=>match b with
  | .fn b=>Nat.beq a b
  |_=>false
 | .cls a=>match b with
  | .cls b=>Nat.beq a b
  |_=>false
 | .int a=>match b with
  | .int b=>decide (a=b)
  |_=>false
 | .str a=>match b with
  | .str b=>Nat.beq a b
  |_=>false
 |_=>false
noncomputable def dn(cx:Cx)(x:Str)(v:MV):Bool:=il cx x&& !sF x "__debug__" &&lM.any fun p=>rq p.2 v&&sF x p.1
noncomputable def i4:BK→String
 | .len=> "len" | .max=> "max" | .min=> "min" | .int=> "int" | .bytes=> "bytes" | .range=> "range" | .list=> "list" | .barr=> "bytearray"
noncomputable def uf(cx:Cx)(x:Str)(b:BK):Bool:=il cx x&&sF x (i4 b)
noncomputable def mQ(c:Const)(v:MV):Bool:=match c with
 | .none=>match v with
  | .none=>true
  |_=>false
 | .bool a=>match v with
  | .bool b=>a==b
  |_=>false
 | .int a=>match v with
  | .int b=>decide (a=b)
  |_=>false
 | .str s=>match v with
  | .str k=>i3 k s
  |_=>false
 | .bytes a=>match v with
  | .bytes b=>decide (a=b)
  |_=>false
 |_=>false
noncomputable def z6 (o:Option Expr)(k:Nat):Bool:=match o with
 |some e=>match e with
  | .Constant c _ _=>match c with
   | .str s=>i3 k s
   |_=>false
  |_=>false
 |none=>false
noncomputable def f5:List (Option Expr)→List Nat→Bool
 |[],l=>match l with
  |[]=>true
  |_::_=>false
 |o::r,l=>match l with
  |[]=>false
  |k::q=>z6 o k&&f5 r q
noncomputable def dE:Expr→Bool
 | .Call (.Name _ _) [] [] _=>false
 |_=>true
noncomputable def f6:Expr→Bool
 | .Slice .. =>false
 |_=>true
noncomputable def dF:List Nat→Bool
 |[]=>true
 |a::r=>(r.all fun b=> !Nat.beq a b)&&dF r
noncomputable def eQ:List Str→Bool
 |[]=>true
 |a::r=>(r.all fun b=> !(a==b))&&eQ r
noncomputable def f7 (names sc:List (Str×NameKind)):List (Str×NameKind):=names.map fun(n,k)=>if k== .free&&sc.lookup n==some .cell then(n,.cell)else(n,k)
noncomputable def f9 (cx:Cx):List Str→List Nat→Bool
 |[],l=>match l with
  |[]=>true
  |_::_=>false
 |y::r,l=>match l with
  |[]=>false
  |i::q=>(match cx.locs[i]? with|some z=>z==y|none=>false)&&(match cx.sc.lookup y with|some .cell=>true|_=>false)&&f9 cx r q
noncomputable def lO(op:Operator)(o:fz):Bool:=match j3 op with
 |some o'=>decide (o'=o)
 |none=>false
noncomputable def ug(op:CmpOp)(o:jY):Bool:=match nY op with
 |some o'=>decide (o'=o)
 |none=>false
noncomputable def di(scope:Scope):List Str:=(scope.names.filter fun p=>p.2== .free).map (·.1)
noncomputable abbrev gG (cx:Cx)(scope:Scope)(x:Str):Cx:=⟨x::di scope,f7 scope.names cx.sc⟩
noncomputable def p9 (cx:Cx)(scope:Scope)(x:Str)(caps:List Nat):Bool:=
 eQ (gG cx scope x).locs&&(match scope.names.lookup x with|some .local=>true|_=>false)&&scope.kind== .function&&(scope.names.all fun p=>p.2== .local||p.2== .free||p.2== .globalImplicit)&&eQ (scope.names.map (·.1))&&
   f9 cx (di scope) caps
noncomputable def yb(v:MV):Bool:=match v with
 | .bool b=>b
 |_=>false
noncomputable def yc(v:MV):Bool:=match v with
 | .none=>true
 |_=>false
noncomputable def rr(q:IE):Bool:=ce.tg q 0&&yb (ce.v q)
noncomputable def jR(q:IE):Bool:=ce.tg q 0&&yc (ce.v q)
noncomputable def j4 (cx:Cx)(e:Expr)(k:Nat):Bool:=match e with
 | .Constant c _ _=>match c with
  | .str s=>i3 k s
  |_=>false
 | .Name x _=>dn cx x (.str k)
 |_=>false
noncomputable def uh(cx:Cx)(o:Option Expr)(x y:Nat):Bool:=match o with
 |some e=>match e with
  | .Tuple es _ _=>match es with
   |a::r=>match r with
    |b::r=>r.isEmpty&&(j4 cx a x&&j4 cx b y)
    |[]=>false
   |[]=>false
  |_=>false
 |none=>false
noncomputable def eJ(cx:Cx):List (Option Expr)→List Expr→List (Nat×Nat×Nat)→Bool
 |[],vs,T=>vs.isEmpty&&T.isEmpty
 |o::ks,vs,T=>match vs with
  |[]=>false
  |v::vs=>match T with
   |[]=>false
   |t::T=>uh cx o t.1 t.2.1&&(j4 cx v t.2.2&&eJ cx ks vs T)
noncomputable def mR(T:List (Nat×Nat×Nat)):Bool:=(Nat.ble T.length 15&&Nat.blt 0 T.length)||(Nat.beq T.length 18&&(match T.drop 17 with|[]=>false|u::_=>(i2 u.1 u.2.1 (T.take 17) none).isNone))
noncomputable def AY(cx:Cx)(e:Expr)(i:Nat):Bool:=match e with
 | .Name x _=>ir cx x i
 |_=>false
noncomputable def ui(cx:Cx)(args:List Expr)(i j:Nat):Bool:=match args with
 |e::r=>r.isEmpty&&match e with
  | .Tuple es _ _=>match es with
   |a::r=>match r with
    |b::r=>r.isEmpty&&(AY cx a i&&AY cx b j)
    |[]=>false
   |[]=>false
  |_=>false
 |[]=>false
noncomputable def jS(cx:Cx)(o:Expr)(a:Str)(apos:Pos)(args:List Expr)(pos:Pos)(f i j:Nat):Bool:=match o with
 | .Call g as kw _=>match g with
  | .Name x _=>as.isEmpty&&(kw.isEmpty&&(!sF x "super" &&(dn cx x (.fn f)&&(i3 4 a&&(apos.endLine==pos.line&&ui cx args i j)))))
  |_=>false
 |_=>false
mutual
noncomputable def bB:Nat→Cx→Expr→IE→Bool
 |0,_,_,_=>false
 |n+1,cx,e,ie=>match e with
  | .Constant c _ _=>ce.tg ie 0&&mQ c (ce.v ie)
  | .Name x _=>(ce.tg ie 1&&ir cx x (ce.k1 ie))||(ce.tg ie 0&&dn cx x (ce.v ie))
  | .BoolOp op es _=>sG n cx op es ie
  | .BinOp l op r _=>ce.tg ie 7&&(lO op (ce.o ie)&&(bB n cx l (ce.e1 ie)&&bB n cx r (ce.e2 ie)))
  | .UnaryOp op x _=>match op with
   | .Not=>ce.tg ie 2&&bB n cx x (ce.e1 ie)
   | .USub=>ce.tg ie 6&&bB n cx x (ce.e1 ie)
   |_=>false
  | .IfExp t a b _=>ce.tg ie 5&&(bB n cx t (ce.e1 ie)&&(bB n cx a (ce.e2 ie)&&bB n cx b (ce.e3 ie)))
  | .Dict ks vs _=>ce.tg ie 18&&(f5 ks (ce.ks ie)&&(dF (ce.ks ie)&&(Nat.ble (ce.ks ie).length 15&&(Nat.beq ks.length vs.length&&dy n cx vs (ce.a1 ie)))))
  | .List es _=>ce.tg ie 17&&dy n cx es (ce.a1 ie)
  | .Tuple es _ _=>ce.tg ie 16&&dy n cx es (ce.a1 ie)
  | .Compare l ops rs _=>ce.tg ie 8&&match ops with
   |op::ops'=>match rs with
    |r::rs'=>ops'.isEmpty&&(rs'.isEmpty&&(ug op (ce.co ie)&&(bB n cx l (ce.e1 ie)&&(bB n cx r (ce.e2 ie)&& !behindInMarks op r))))
    |[]=>false
   |[]=>false
  | .Call f args kws pos=>kws.isEmpty&&match f with
   | .Attribute o a apos=>(ce.tg ie 14&&(i3 (ce.k1 ie) a&&(bB n cx o (ce.e1 ie)&&(dy n cx args (ce.a1 ie)&&(apos.endLine==pos.line&&(Nat.blt args.length 29&&dE o))))))||
     (ce.tg ie 20&&jS cx o a apos args pos (ce.k1 ie) (ce.k2 ie) (ce.k3 ie))
   | .Name f _=>(ce.tg ie 12&&(dn cx f (.fn (ce.k1 ie))&&dy n cx args (ce.a1 ie)))||((ce.tg ie 13&&(dn cx f (.cls (ce.k1 ie))&&dy n cx args (ce.a1 ie)))||(ce.tg ie 15&&(uf cx f (ce.b ie)&&dy n cx args (ce.a1 ie))))
   |_=>false
  | .Attribute o a _=>ce.tg ie 9&&(i3 (ce.k1 ie) a&&(bB n cx o (ce.e1 ie)&&dE o))
  | .Subscript o i _=>(ce.tg ie 11&&match i with
    | .Slice lo hi st _=>st.isNone&&(bB n cx o (ce.e1 ie)&&(AZ n cx lo (ce.e2 ie)&&AZ n cx hi (ce.e3 ie)))
    |_=>false)||(ce.tg ie 10&&(f6 i&&(bB n cx o (ce.e1 ie)&&bB n cx i (ce.e2 ie))))
  | .ListComp elt gens scope _=>ce.tg ie 19&&match gens with
    |g::gs=>match g.target with
     | .Name x _=>gs.isEmpty&&(g.is_async==0&&(p9 cx scope x (ce.ks ie)&&(bB n cx g.iter (ce.e2 ie)&&(bB n (gG cx scope x) elt (ce.e1 ie)&&(match g.ifs with
      |[]=>rr (ce.e3 ie)
      |c::cs=>cs.isEmpty&&bB n (gG cx scope x) c (ce.e3 ie))))))
     |_=>false
    |[]=>false
  |_=>false
noncomputable def sG:Nat→Cx→BoolOp→List Expr→IE→Bool
 |0,_,_,_,_=>false
 |n+1,cx,op,es,ie=>match es with
  |[]=>false
  |e::r=>match r with
   |[]=>bB n cx e ie
   |_::_=>match op with
    | .And=>ce.tg ie 3&&(bB n cx e (ce.e1 ie)&&sG n cx .And r (ce.e2 ie))
    | .Or=>ce.tg ie 4&&(bB n cx e (ce.e1 ie)&&sG n cx .Or r (ce.e2 ie))
noncomputable def AZ:Nat→Cx→Option Expr→IE→Bool
 |0,_,_,_=>false
 |n+1,cx,o,ie=>match o with
  |some e=>bB n cx e ie
  |none=>jR ie
noncomputable def dy:Nat→Cx→List Expr→gy→Bool
 |0,_,_,_=>false
 |n+1,cx,es,ies=>match es with
  |[]=>match ies with
   | .nil=>true
   | .cons _ _=>false
  |e::r=>match ies with
   | .nil=>false
   | .cons a q=>bB n cx e a&&dy n cx r q
end
noncomputable def tZ(n:Nat)(cx:Cx)(e:Expr)(t:IT):Bool:=match t with
 | .loc i=>match e with
  | .Name x _=>eP cx x i
  |_=>false
 | .attr io m=>match e with
  | .Attribute o a _=>i3 m a&&(bB n cx o io&&dE o)
  |_=>false
 | .sub a b=>match e with
  | .Subscript o i _=>f6 i&&(bB n cx o a&&bB n cx i b)
  |_=>false
noncomputable def j5 (n:Nat)(cx:Cx):List Expr→List IT→Bool
 |[],l=>match l with
  |[]=>true
  |_::_=>false
 |e::r,l=>match l with
  |[]=>false
  |t::q=>tZ n cx e t&&j5 n cx r q
noncomputable def j6 (cx:Cx):List Expr→List Nat→Bool
 |[],l=>match l with
  |[]=>true
  |_::_=>false
 |e::r,l=>match l with
  |[]=>false
  |i::q=>(match e with| .Name x _=>eP cx x i|_=>false)&&j6 cx r q
noncomputable def fB:Expr→Bool
 | .ListComp .. | .SetComp .. | .DictComp .. =>true
 |_=>false
noncomputable def mS(ts:List Expr)(v:Expr):Bool:=match v with
 | .Tuple vs _ _=>vs.length==ts.length&&vs.all (constantsAlone 8)&& !vs.all (foldedForSure 8)
 |_=>false
noncomputable def qa:List IT→Bool
 |[]=>true
 | .loc _::r=>qa r
 |_=>false
noncomputable def uj:List IT→Bool
 |[]=>true
 | .loc _::_=>false
 |_::r=>uj r
noncomputable def fC:List IT→List Nat
 |[]=>[]
 | .loc i::r=>i::fC r
 |_::r=>fC r
noncomputable def qb(t v:Expr):Bool:=match v with
 | .ListComp _ _ scope _=>match t with
  | .Name x _=> !(scope.names.any fun(m,k)=>m==x&&(k== .local||k== .cell))
  |_=>true
 |_=>true
mutual
noncomputable def Dd:Nat→Cx→Stmt→IS→Bool
 |0,_,_,_=>false
 |n+1,cx,s,is=>match s with
  | .Assign ts v _=>match ts with
   |t::r=>r.isEmpty&&((cs.tg is 1&&match t with
     | .Tuple ts _ _=>j5 n cx ts (cs.ts is)&&(bB n cx v (cs.e1 is)&&(!fB v&&(!mS ts v&&(dF (fC (cs.ts is))&&(qa (cs.ts is)||uj (cs.ts is))))))
     |_=>false)||(cs.tg is 0&&(tZ n cx t (cs.tt is)&&(bB n cx v (cs.e1 is)&&qb t v))))
   |[]=>false
  | .AugAssign t op v _=>match t with
   | .Name x _=>cs.tg is 2&&(eP cx x (cs.k1 is)&&(lO op (cs.o is)&&bB n cx v (cs.e1 is)))
   | .Attribute ob a _=>cs.tg is 3&&(i3 (cs.k1 is) a&&(bB n cx ob (cs.e2 is)&&(lO op (cs.o is)&&bB n cx v (cs.e1 is))))
   |_=>false
  | .If t a b _=>cs.tg is 4&&(bB n cx t (cs.e1 is)&&(fD n cx a (cs.p is)&&fD n cx b (cs.q is)))
  | .While t a els _=>els.isEmpty&&(cs.tg is 5&&(bB n cx t (cs.e1 is)&&fD n cx a (cs.p is)))
  | .For t it a els _=>els.isEmpty&&(cs.tg is 6&&((match cs.s is with
    |true=>match t with
     | .Name x _=>match cs.ls is with
      |i::r=>r.isEmpty&&eP cx x i
      |[]=>false
     |_=>false
    |false=>match t with
     | .Tuple es _ _=>j6 cx es (cs.ls is)
     |_=>false)&&(bB n cx it (cs.e1 is)&&fD n cx a (cs.p is))))
  | .Return v _=>cs.tg is 7&&match v with
   |some e=>bB n cx e (cs.e1 is)
   |none=>jR (cs.e1 is)
  | .Expr e _=>cs.tg is 8&&(bB n cx e (cs.e1 is)&& !fB e)
  | .Continue _=>cs.tg is 9
  | .Break _=>cs.tg is 10
  | .Raise .. =>cs.tg is 11
  |_=>false
noncomputable def fD:Nat→Cx→List Stmt→fY→Bool
 |0,_,_,_=>false
 |n+1,cx,ss,iss=>match ss with
  |[]=>match iss with
   | .nil=>true
   | .cons _ _=>false
  |s::r=>match iss with
   | .nil=>false
   | .cons a q=>Dd n cx s a&&fD n cx r q
end
noncomputable def i5 (p:Arguments):Bool:=p.posonlyargs.isEmpty&&(p.vararg.isNone&&(p.kwonlyargs.isEmpty&&(p.kw_defaults.isEmpty&&p.kwarg.isNone)))
noncomputable def z7 (b:FuncBody):Option (List Stmt):=match b with
 | .stmts l=>some l
 | .expr _=>none
noncomputable def ru(k:NameKind):Bool:=match k with
 | .free=>true
 |_=>false
noncomputable def rv(k:NameKind):Bool:=match k with
 | .cell=>true
 |_=>false
noncomputable def uk(o:Option NameKind):Bool:=match o with
 |some k=>match k with
  | .local=>true
  | .cell=>true
  |_=>false
 |none=>false
noncomputable def F7 (fd:FuncData)(F:Fn):Bool:=match z7 fd.body with
 |some body=>
  i5 fd.params&&(fd.scope.kind== .function&&(!fd.scope.isCoroutine&&(!fd.scope.isGenerator&&(fd.closure.isEmpty&&(eQ (cb (fd.params.args.map (·.arg)) fd.scope.names)&&(Nat.beq F.np (fd.params.args.map (·.arg)).length&&
  (Nat.beq F.nl (cb (fd.params.args.map (·.arg)) fd.scope.names).length&&(Nat.ble F.dfl.length F.np&&(((fd.params.args.map (·.arg)).all fun x=>uk (fd.scope.names.lookup x))&&((fd.scope.names.all fun p=> !ru p.2&&(!rv p.2||(fd.params.args.map (·.arg)).contains p.1))&&
  (eQ (fd.scope.names.map (·.1))&&fD 100 ⟨cb (fd.params.args.map (·.arg)) fd.scope.names,fd.scope.names⟩ body F.body)))))))))))
 |none=>false
noncomputable def A0 (b:FuncBody):Option (List (Option Expr)×List Expr×Pos×Pos):=match b with
 | .stmts body=>match body with
  |s::r=>match r with
   |[]=>match s with
    | .Return v rp=>match v with
     |some e=>match e with
      | .Dict ks vs dp=>some (ks,vs,dp,rp)
      |_=>none
     |none=>none
    |_=>none
   |_::_=>none
  |[]=>none
 | .expr _=>none
noncomputable def yd(fd:FuncData)(T:List (Nat×Nat×Nat)):Bool:=match A0 fd.body with
 |some r=>i5 fd.params&&(fd.params.args.isEmpty&&(fd.params.defaults.isEmpty&&(fd.scope.kind== .function&&(!fd.scope.isCoroutine&&(!fd.scope.isGenerator&&(fd.closure.isEmpty&&(eJ ⟨[],fd.scope.names⟩ r.1 r.2.1 T&&mR T)))))))
 |none=>false
noncomputable def Dy:BK→Value
 | .len=> .builtin "len"
 | .max=> .builtin "max"
 | .min=> .builtin "min"
 | .int=> .type "int"
 | .bytes=> .type "bytes"
 | .range=> .type "range"
 | .list=> .type "list"
 | .barr=> .type "bytearray"
end Mine.Internal
end
section
namespace Mine.Internal
noncomputable def Ge:Fn:=⟨3,3,[],(.cons (.ret (.bin .fmod (.bin .add (.l 0) (.l 1)) (.l 2))) .nil)⟩
noncomputable def Gf:Fn:=⟨3,3,[],(.cons (.ret (.bin .fmod (.bin .sub (.l 1) (.l 0)) (.l 2))) .nil)⟩
noncomputable def Gg:Fn:=⟨3,4,[],(.cons (.assign (.loc 3) (.call 35 (.cons (.l 0) (.cons (.l 1) (.cons (.l 2) .nil))))) (.cons (.ret (.and (.cmp .gt (.l 3) (.c (.int (0)))) (.cmp .lt (.bin .mul (.c (.int (2))) (.l 3)) (.l 2)))) .nil))⟩
noncomputable def Gh:Fn:=⟨3,3,[],(.cons (.ret (.or (.cmp .eq (.l 0) (.l 1)) (.call 42 (.cons (.l 0) (.cons (.l 1) (.cons (.l 2) .nil)))))) .nil)⟩
noncomputable def Ii:Fn:=⟨2,2,[],(.cons (.assign (.attr (.l 0) 11) (.l 1)) (.cons (.assign (.attr (.l 0) 12) (.c (.int (0)))) (.cons (.assign (.attr (.l 0) 13) (.c .none)) (.cons (.assign (.attr (.l 0) 14) (.c (.bool false))) .nil))))⟩
noncomputable def Ba:Fn:=⟨4,5,[(.bool false)],(.cons (.assign (.loc 4) (.attr (.l 0) 14)) (.cons (.assign (.attr (.l 0) 14) (.or (.l 3) (.not (.l 1)))) (.cons (.augA (.l 0) 12 .add (.c (.int (1)))) (.cons (.ite (.or (.not (.l 1)) (.or (.l 4) (.or (.l 3) (.or (.cmp .le (.attr (.l 0) 11) (.c (.int (0)))) (.cmp .ge (.attr (.l 0) 12) (.c (.int (2)))))))) (.cons (.ex (.meth (.l 0) 84 .nil)) (.cons (.ret (.c (.str 205))) .nil)) .nil) (.cons (.ite (.cmp .isn (.attr (.l 0) 13) (.c .none)) (.cons (.assign (.attr (.l 0) 13) (.bin .add (.l 2) (.attr (.l 0) 11))) .nil) .nil) (.cons (.ret (.c (.str 197))) .nil))))))⟩
noncomputable def Ij:Fn:=⟨1,1,[],(.cons (.assign (.attr (.l 0) 12) (.c (.int (2)))) .nil)⟩
noncomputable def Bb:Fn:=⟨2,2,[],(.cons (.ite (.cmp .ge (.attr (.l 0) 12) (.c (.int (2)))) (.cons (.ret (.c (.bool true))) .nil) .nil) (.cons (.ret (.and (.cmp .isnn (.attr (.l 0) 13) (.c .none)) (.cmp .le (.attr (.l 0) 13) (.l 1)))) .nil))⟩
noncomputable def Ik:Fn:=⟨1,1,[],(.cons (.assign (.attr (.l 0) 12) (.c (.int (0)))) (.cons (.assign (.attr (.l 0) 13) (.c .none)) .nil))⟩
noncomputable def Gi:Fn:=⟨1,1,[],(.cons (.ret (.attr (.l 0) 13)) .nil)⟩
noncomputable def Gj:Fn:=⟨4,4,[],(.cons (.assign (.attr (.l 0) 15) (.l 1)) (.cons (.assign (.attr (.l 0) 16) (.l 3)) (.cons (.assign (.attr (.l 0) 17) (.l 2)) (.cons (.assign (.attr (.l 0) 18) (.l 3)) (.cons (.assign (.attr (.l 0) 19) (.c (.int (0)))) (.cons (.assign (.attr (.l 0) 20) (.c (.int (0)))) (.cons (.assign (.attr (.l 0) 21) (.c (.bool false))) (.cons (.assign (.attr (.l 0) 22) (.c (.bool false))) .nil))))))))⟩
noncomputable def Gk:Fn:=⟨1,1,[],(.cons (.ret (.attr (.l 0) 17)) .nil)⟩
noncomputable def Gl:Fn:=⟨3,3,[],(.cons (.assign (.attr (.l 0) 8) (.l 1)) (.cons (.assign (.attr (.l 0) 23) (.l 2)) (.cons (.assign (.attr (.l 0) 24) (.c (.int (0)))) (.cons (.assign (.attr (.l 0) 25) (.c .none)) (.cons (.assign (.attr (.l 0) 26) (.c (.int (0)))) .nil)))))⟩
noncomputable def Gm:Fn:=⟨4,4,[],(.cons (.assign (.attr (.l 0) 27) (.l 1)) (.cons (.assign (.attr (.l 0) 28) (.l 2)) (.cons (.assign (.attr (.l 0) 16) (.l 3)) (.cons (.assign (.attr (.l 0) 29) (.c (.int (0)))) (.cons (.assign (.attr (.l 0) 30) (.c (.int (0)))) (.cons (.assign (.attr (.l 0) 31) (.c (.int (0)))) .nil))))))⟩
noncomputable def Gn:Fn:=⟨2,2,[],(.cons (.ite (.cmp .lt (.l 1) (.c (.int (1)))) (.cons .bad .nil) .nil) (.cons (.assign (.attr (.l 0) 33) (.l 1)) (.cons (.assign (.attr (.l 0) 34) (.c (.bytes []))) .nil)))⟩
noncomputable def Gp:Fn:=⟨1,1,[],(.cons (.ret (.bi .len (.cons (.attr (.l 0) 34) .nil))) .nil)⟩
noncomputable def Gq:Fn:=⟨2,2,[],(.cons (.assign (.attr (.l 0) 6) (.l 1)) (.cons (.assign (.attr (.l 0) 17) (.c (.int (0)))) (.cons (.assign (.attr (.l 0) 16) (.c (.int (0)))) (.cons (.assign (.attr (.l 0) 35) (.c .none)) (.cons (.assign (.attr (.l 0) 36) (.c (.int (0)))) .nil)))))⟩
noncomputable def Gr:Fn:=⟨5,5,[],(.cons (.assign (.attr (.l 0) 37) (.l 1)) (.cons (.assign (.attr (.l 0) 6) (.l 2)) (.cons (.assign (.attr (.l 0) 15) (.l 3)) (.cons (.assign (.attr (.l 0) 38) (.l 1)) (.cons (.assign (.attr (.l 0) 39) (.l 1)) (.cons (.assign (.attr (.l 0) 7) (.l 1)) (.cons (.assign (.attr (.l 0) 40) (.new 461 (.cons (.l 2) .nil))) (.cons (.assign (.attr (.l 0) 41) (.new 426 (.cons (.l 4) .nil))) (.cons (.assign (.attr (.l 0) 42) (.c (.bool true))) (.cons (.assign (.attr (.l 0) 43) (.c (.bool false))) (.cons (.assign (.attr (.l 0) 44) (.c (.bool false))) .nil)))))))))))⟩
noncomputable def Gs:Fn:=⟨1,1,[],(.cons (.ret (.call 35 (.cons (.attr (.l 0) 38) (.cons (.attr (.l 0) 39) (.cons (.attr (.l 0) 6) .nil))))) .nil)⟩
noncomputable def Gu:Fn:=⟨1,1,[],(.cons (.ret (.bi .min (.cons (.meth (.attr (.l 0) 41) 17 .nil) (.cons (.bi .max (.cons (.c (.int (0))) (.cons (.bin .sub (.meth (.l 0) 98 .nil) (.bi .int (.cons (.attr (.l 0) 42) .nil))) .nil))) .nil)))) .nil)⟩
noncomputable def Gv:Fn:=⟨1,1,[],(.cons (.ret (.bin .sub (.meth (.attr (.l 0) 41) 17 .nil) (.meth (.l 0) 121 .nil))) .nil)⟩
noncomputable def Gw:Fn:=⟨1,2,[],(.cons (.assign (.loc 1) (.bin .add (.meth (.attr (.l 0) 41) 17 .nil) (.bi .int (.cons (.attr (.l 0) 42) .nil)))) (.cons (.ret (.and (.attr (.l 0) 43) (.and (.not (.meth (.l 0) 142 .nil)) (.cmp .le (.meth (.l 0) 98 .nil) (.l 1))))) .nil))⟩
noncomputable def Gx:Fn:=⟨3,5,[(.bool true)],(.cons (.assign (.loc 3) (.lst .nil)) (.cons (.ite (.attr (.l 0) 42) (.cons (.ret (.l 3)) .nil) .nil) (.cons (.whil (.cmp .gt (.meth (.l 0) 122 .nil) (.c (.int (0)))) (.cons (.assign (.loc 4) (.bi .min (.cons (.attr (.l 0) 15) (.cons (.meth (.l 0) 122 .nil) (.cons (.meth (.l 0) 143 (.cons (.l 1) .nil)) .nil))))) (.cons (.ite (.or (.cmp .eq (.l 4) (.c (.int (0)))) (.not (.meth (.l 0) 144 (.cons (.l 4) (.cons (.l 2) .nil))))) (.cons (.ret (.l 3)) .nil) .nil) (.cons (.ex (.meth (.l 3) 0 (.cons (.meth (.l 0) 126 (.cons (.l 4) (.cons (.l 1) .nil))) .nil))) .nil)))) (.cons (.ite (.and (.meth (.l 0) 123 .nil) (.cmp .gt (.meth (.l 0) 143 (.cons (.l 1) .nil)) (.c (.int (0))))) (.cons (.ex (.meth (.l 3) 0 (.cons (.tup (.cons (.attr (.l 0) 39) (.cons (.c (.bytes [])) (.cons (.c (.bool false)) (.cons (.c (.bool true)) .nil))))) .nil))) (.cons (.assign (.attr (.l 0) 44) (.c (.bool true))) (.cons (.ex (.meth (.l 0) 97 (.cons (.c (.int (1))) .nil))) .nil))) .nil) (.cons (.ret (.l 3)) .nil)))))⟩
noncomputable def Gy:Fn:=⟨1,1,[],(.cons (.ite (.or (.attr (.l 0) 42) (.cmp .gt (.meth (.l 0) 98 .nil) (.c (.int (0))))) (.cons (.ret (.c (.bool false))) .nil) .nil) (.cons (.ret (.or (.cmp .gt (.meth (.l 0) 122 .nil) (.c (.int (0)))) (.meth (.l 0) 123 .nil))) .nil))⟩
noncomputable def Gz:Fn:=⟨1,2,[],(.cons (.ite (.not (.meth (.l 0) 124 .nil)) (.cons (.ret (.c (.bool false))) .nil) .nil) (.cons (.ite (.cmp .eq (.attr (.l 0) 50) (.c (.int (0)))) (.cons (.ret (.c (.bool true))) .nil) .nil) (.cons (.assign (.loc 1) (.bi .min (.cons (.attr (.l 0) 15) (.cons (.meth (.l 0) 122 .nil) (.cons (.attr (.l 0) 50) .nil))))) (.cons (.ret (.and (.cmp .gt (.l 1) (.c (.int (0)))) (.not (.meth (.l 0) 144 (.cons (.l 1) (.cons (.c (.bool true)) .nil)))))) .nil))))⟩
noncomputable def Bc:Fn:=⟨10,10,[(.int (0)),(.bytes []),(.bytes [])],(.cons (.assign (.attr (.l 0) 45) (.l 1)) (.cons (.assign (.attr (.l 0) 46) (.l 2)) (.cons (.assign (.attr (.l 0) 47) (.l 3)) (.cons (.assign (.attr (.l 0) 48) (.l 4)) (.cons (.assign (.attr (.l 0) 49) (.l 5)) (.cons (.assign (.attr (.l 0) 50) (.l 6)) (.cons (.assign (.attr (.l 0) 51) (.l 7)) (.cons (.assign (.attr (.l 0) 52) (.l 8)) (.cons (.assign (.attr (.l 0) 53) (.l 9)) .nil)))))))))⟩
noncomputable def Bd:Fn:=⟨2,2,[],(.cons (.ret (.cmp .ne (.bin .band (.attr (.l 0) 49) (.l 1)) (.c (.int (0))))) .nil)⟩
noncomputable def um:Fn:=⟨1,2,[],(.cons (.assign (.loc 1) (.bi .len (.cons (.attr (.l 0) 53) .nil))) (.cons (.ite (.meth (.l 0) 82 (.cons (.c (.int (2))) .nil)) (.cons (.augL 1 .add (.c (.int (1)))) .nil) .nil) (.cons (.ite (.meth (.l 0) 82 (.cons (.c (.int (1))) .nil)) (.cons (.augL 1 .add (.c (.int (1)))) .nil) .nil) (.cons (.ret (.l 1)) .nil))))⟩
noncomputable def Be:Fn:=⟨1,2,[],(.cons (.assign (.loc 1) (.tup (.cons (.attr (.l 0) 45) (.cons (.attr (.l 0) 46) (.cons (.attr (.l 0) 47) (.cons (.attr (.l 0) 48) (.cons (.attr (.l 0) 49) (.cons (.attr (.l 0) 50) (.cons (.attr (.l 0) 51) .nil))))))))) (.cons (.ret (.bin .add (.l 1) (.tup (.cons (.bi .bytes (.cons (.attr (.l 0) 52) .nil)) (.cons (.bi .bytes (.cons (.attr (.l 0) 53) .nil)) .nil))))) .nil))⟩
noncomputable def GA:Fn:=⟨1,1,[],(.cons (.ret (.cmp .isin (.l 0) (.tup (.cons (.c (.str 183)) (.cons (.c (.str 184)) (.cons (.c (.str 185)) .nil)))))) .nil)⟩
noncomputable def GB:Fn:=⟨1,1,[],(.cons (.ret (.cmp .isin (.l 0) (.tup (.cons (.c (.str 183)) (.cons (.c (.str 184)) (.cons (.c (.str 186)) (.cons (.c (.str 187)) (.cons (.c (.str 188)) .nil)))))))) .nil)⟩
noncomputable def GC:Fn:=⟨2,2,[(.int (16))],(.cons (.assign (.attr (.l 0) 17) (.l 1)) (.cons (.assign (.attr (.l 0) 54) (.comp (.lst .nil) (.bi .range (.cons (.l 1) .nil)) (.c (.bool true)) [])) (.cons (.assign (.attr (.l 0) 55) (.lst .nil)) (.cons (.assign (.attr (.l 0) 56) (.dsp [] .nil)) (.cons (.assign (.attr (.l 0) 57) (.c .none)) (.cons (.assign (.attr (.l 0) 58) (.c (.int (0)))) .nil))))))⟩
noncomputable def Bf:Fn:=⟨3,3,[],(.cons (.ex (.meth (.l 0) 100 (.cons (.l 1) .nil))) (.cons (.assign (.attr (.l 0) 58) (.bin .add (.attr (.l 0) 58) (.c (.int (1))))) (.cons (.assign (.sub (.attr (.l 0) 56) (.l 1)) (.tup (.cons (.l 2) (.cons (.attr (.l 0) 58) .nil)))) (.cons (.ex (.meth (.meth (.l 0) 146 (.cons (.l 2) .nil)) 0 (.cons (.l 1) .nil))) .nil))))⟩
noncomputable def Bg:Fn:=⟨2,2,[],(.cons (.ite (.and (.cmp .isnn (.attr (.l 0) 57) (.c .none)) (.cmp .le (.l 1) (.attr (.l 0) 57))) (.cons (.ret (.attr (.l 0) 55)) .nil) .nil) (.cons (.ret (.sub (.attr (.l 0) 54) (.bin .fmod (.l 1) (.attr (.l 0) 17)))) .nil))⟩
noncomputable def qc:Fn:=⟨2,5,[],(.cons (.ite (.cmp .isin (.l 1) (.attr (.l 0) 56)) (.cons (.assignT [(.loc 2),(.loc 3)] (.meth (.attr (.l 0) 56) 1 (.cons (.l 1) .nil))) (.cons (.forr [4] true (.tup (.cons (.attr (.l 0) 55) (.cons (.sub (.attr (.l 0) 54) (.bin .fmod (.l 2) (.attr (.l 0) 17))) .nil))) (.cons (.ite (.cmp .isin (.l 1) (.l 4)) (.cons (.ex (.meth (.l 4) 2 (.cons (.l 1) .nil))) .nil) .nil) .nil)) .nil)) .nil) .nil)⟩
noncomputable def uq:Fn:=⟨2,2,[],(.cons (.ret (.ife (.cmp .isin (.l 1) (.attr (.l 0) 56)) (.sub (.sub (.attr (.l 0) 56) (.l 1)) (.c (.int (0)))) (.c .none))) .nil)⟩
noncomputable def GD:Fn:=⟨11,11,[],(.cons (.assign (.attr (.l 0) 6) (.l 1)) (.cons (.assign (.attr (.l 0) 15) (.l 2)) (.cons (.assign (.attr (.l 0) 59) (.l 3)) (.cons (.assign (.attr (.l 0) 60) (.l 4)) (.cons (.assign (.attr (.l 0) 61) (.l 5)) (.cons (.assign (.attr (.l 0) 62) (.l 6)) (.cons (.assign (.attr (.l 0) 63) (.l 7)) (.cons (.assign (.attr (.l 0) 23) (.l 8)) (.cons (.assign (.attr (.l 0) 64) (.l 9)) (.cons (.assign (.attr (.l 0) 65) (.l 10)) .nil))))))))))⟩
noncomputable def GF:Fn:=⟨1,2,[],(.cons (.assign (.loc 1) (.new 326 (.cons (.attr (.l 0) 61) (.cons (.attr (.l 0) 62) (.cons (.attr (.l 0) 63) .nil))))) (.cons (.ret (.new 270 (.cons (.l 1) (.cons (.attr (.l 0) 23) .nil)))) .nil))⟩
noncomputable def GG:Fn:=⟨5,5,[],(.cons (.assign (.attr (.l 0) 66) (.l 1)) (.cons (.assign (.attr (.l 0) 67) (.l 2)) (.cons (.assign (.attr (.l 0) 68) (.l 3)) (.cons (.assign (.attr (.l 0) 5) (.c (.str 179))) (.cons (.assign (.attr (.l 0) 69) (.new 652 (.cons (.l 4) (.cons (.attr (.l 1) 6) (.cons (.attr (.l 1) 15) (.cons (.attr (.l 1) 59) .nil)))))) (.cons (.assign (.attr (.l 0) 9) (.c .none)) (.cons (.assign (.attr (.l 0) 70) (.call 850 (.cons (.l 1) .nil))) (.cons (.assign (.attr (.l 0) 71) (.new 193 (.cons (.attr (.l 1) 15) (.cons (.bin .mul (.c (.int (2))) (.attr (.l 1) 15)) (.cons (.bin .add (.attr (.l 1) 59) (.attr (.l 1) 15)) .nil))))) (.cons (.assign (.attr (.l 0) 72) (.new 109 (.cons (.attr (.l 1) 64) .nil))) (.cons (.assign (.attr (.l 0) 73) (.new 818 .nil)) (.cons (.assign (.attr (.l 0) 74) (.c .none)) (.cons (.assign (.attr (.l 0) 75) (.c (.int (0)))) (.cons (.assign (.attr (.l 0) 76) (.c (.int (0)))) (.cons (.assign (.attr (.l 0) 77) (.c (.bool true))) .nil))))))))))))))⟩
noncomputable def Bh:Fn:=⟨1,1,[],(.cons (.ite (.cmp .isn (.attr (.l 0) 9) (.c .none)) (.cons (.ret (.bi .min (.cons (.attr (.attr (.l 0) 66) 60) (.cons (.c (.int (65535))) .nil)))) .nil) .nil) (.cons (.ret (.bi .min (.cons (.meth (.attr (.l 0) 9) 50 .nil) (.cons (.c (.int (65535))) .nil)))) .nil))⟩
noncomputable def Bi:Fn:=⟨4,7,[(.bytes [])],(.cons (.assign (.loc 4) (.c (.int (0)))) (.cons (.ite (.cmp .isnn (.attr (.l 0) 9) (.c .none)) (.cons (.assign (.loc 1) (.bin .bor (.l 1) (.c (.int (16))))) (.cons (.assign (.loc 4) (.attr (.attr (.l 0) 9) 39)) (.cons (.ex (.meth (.attr (.l 0) 72) 127 .nil)) (.cons (.ex (.meth (.attr (.l 0) 73) 100 (.cons (.c (.int (3))) .nil))) .nil)))) .nil) (.cons (.assign (.loc 5) (.ife (.cmp .ne (.bin .band (.l 1) (.c (.int (2)))) (.c (.int (0)))) (.call 720 (.cons (.bi .min (.cons (.attr (.attr (.l 0) 66) 15) (.cons (.c (.int (65535))) .nil))) .nil)) (.c (.bytes [])))) (.cons (.assign (.loc 6) (.meth (.l 0) 102 .nil)) (.cons (.ret (.new 702 (.cons (.sub (.attr (.l 0) 67) (.c (.int (1)))) (.cons (.sub (.attr (.l 0) 68) (.c (.int (1)))) (.cons (.l 2) (.cons (.l 4) (.cons (.l 1) (.cons (.l 6) (.cons (.c (.int (0))) (.cons (.l 5) (.cons (.l 3) .nil))))))))))) .nil)))))⟩
noncomputable def GH:Fn:=⟨2,3,[],(.cons (.assign (.loc 2) (.call 741 (.cons (.attr (.l 0) 5) (.cons (.l 1) .nil)))) (.cons (.ite (.cmp .isn (.l 2) (.c .none)) (.cons .bad .nil) .nil) (.cons (.assign (.attr (.l 0) 5) (.l 2)) .nil)))⟩
noncomputable def Bj:Fn:=⟨2,3,[],(.cons (.assign (.attr (.l 0) 5) (.c (.str 189))) (.cons (.forr [2] true (.tup (.cons (.c (.int (1))) (.cons (.c (.int (2))) .nil))) (.cons (.ex (.meth (.attr (.l 0) 73) 100 (.cons (.l 2) .nil))) .nil)) (.cons (.ex (.meth (.attr (.l 0) 73) 78 (.cons (.c (.int (4))) (.cons (.bin .add (.l 1) (.attr (.attr (.l 0) 66) 65)) .nil)))) .nil)))⟩
noncomputable def Bk:Fn:=⟨1,1,[],(.cons (.ret (.meth (.l 0) 79 (.cons (.c (.int (16))) (.cons (.attr (.attr (.l 0) 69) 39) .nil)))) .nil)⟩
noncomputable def GI:Fn:=⟨1,2,[],(.cons (.ite (.and (.attr (.attr (.l 0) 69) 43) (.call 755 (.cons (.attr (.l 0) 5) .nil))) (.cons (.assign (.loc 1) (.call 741 (.cons (.attr (.l 0) 5) (.cons (.c (.str 211)) .nil)))) (.cons (.ite (.cmp .isnn (.l 1) (.c .none)) (.cons (.assign (.attr (.l 0) 5) (.l 1)) .nil) .nil) .nil)) .nil) .nil)⟩
noncomputable def Bl:Fn:=⟨2,10,[],(.cons (.assign (.loc 2) (.lst .nil)) (.cons (.assign (.loc 3) (.attr (.attr (.l 0) 66) 6)) (.cons (.assign (.loc 4) (.attr (.attr (.l 0) 69) 7)) (.cons (.forr [5,6,7,8] false (.meth (.attr (.l 0) 69) 80 (.cons (.meth (.attr (.l 0) 71) 50 .nil) (.cons (.attr (.l 0) 77) .nil))) (.cons (.assign (.loc 9) (.call 28 (.cons (.l 5) (.cons (.bin .add (.bi .len (.cons (.l 6) .nil)) (.ife (.l 8) (.c (.int (1))) (.c (.int (0))))) (.cons (.l 3) .nil))))) (.cons (.ite (.call 42 (.cons (.l 4) (.cons (.l 9) (.cons (.l 3) .nil)))) (.cons (.ex (.meth (.attr (.l 0) 70) 128 (.cons (.l 9) (.cons (.l 1) .nil)))) .nil) .nil) (.cons (.ex (.meth (.l 2) 0 (.cons (.meth (.l 0) 79 (.cons (.call 921 (.cons (.l 7) (.cons (.l 8) .nil))) (.cons (.l 5) (.cons (.l 6) .nil)))) .nil))) .nil)))) (.cons (.ret (.l 2)) .nil)))))⟩
noncomputable def uu:Fn:=⟨2,3,[],(.cons (.ex (.call 928 (.cons (.l 0) .nil))) (.cons (.assign (.loc 2) (.lst .nil)) (.cons (.ite (.cmp .isin (.attr (.l 0) 5) (.tup (.cons (.c (.str 181)) (.cons (.c (.str 182)) .nil)))) (.cons (.ite (.cmp .eq (.attr (.attr (.l 0) 69) 39) (.attr (.attr (.l 0) 69) 37)) (.cons (.ex (.meth (.l 2) 0 (.cons (.call 914 (.cons (.l 0) .nil)) .nil))) (.cons (.ex (.meth (.attr (.l 0) 70) 128 (.cons (.attr (.attr (.l 0) 69) 39) (.cons (.l 1) .nil)))) .nil)) .nil) .nil) (.cons (.ite (.call 755 (.cons (.attr (.l 0) 5) .nil)) (.cons (.assign (.loc 2) (.call 935 (.cons (.l 0) (.cons (.l 1) .nil)))) .nil) .nil) .nil)) (.cons (.ex (.call 949 (.cons (.l 0) (.cons (.l 1) .nil)))) (.cons (.ret (.l 2)) .nil)))))⟩
noncomputable def Bm:Fn:=⟨2,2,[],(.cons (.ite (.cmp .isin (.attr (.l 0) 5) (.tup (.cons (.c (.str 179)) (.cons (.c (.str 180)) (.cons (.c (.str 189)) .nil))))) (.cons (.ret (.c .none)) .nil) .nil) (.cons (.ite (.cmp .eq (.meth (.attr (.l 0) 69) 98 .nil) (.c (.int (0)))) (.cons (.ex (.meth (.attr (.l 0) 73) 100 (.cons (.c (.int (1))) .nil))) .nil) (.cons (.ite (.cmp .isn (.meth (.attr (.l 0) 73) 129 (.cons (.c (.int (1))) .nil)) (.c .none)) (.cons (.ex (.meth (.attr (.l 0) 73) 78 (.cons (.c (.int (1))) (.cons (.meth (.attr (.l 0) 70) 147 (.cons (.l 1) .nil)) .nil)))) .nil) .nil) .nil)) (.cons (.ite (.or (.not (.call 755 (.cons (.attr (.l 0) 5) .nil))) (.not (.meth (.attr (.l 0) 69) 125 .nil))) (.cons (.ex (.meth (.attr (.l 0) 73) 100 (.cons (.c (.int (2))) .nil))) (.cons (.assign (.attr (.l 0) 75) (.c (.int (0)))) .nil)) (.cons (.ite (.cmp .isn (.meth (.attr (.l 0) 73) 129 (.cons (.c (.int (2))) .nil)) (.c .none)) (.cons (.ex (.meth (.attr (.l 0) 73) 78 (.cons (.c (.int (2))) (.cons (.bin .add (.l 1) (.call 956 (.cons (.l 0) .nil))) .nil)))) .nil) .nil) .nil)) .nil)))⟩
noncomputable def dz:Fn:=⟨3,7,[],(.cons (.assign (.loc 3) (.attr (.l 0) 9)) (.cons (.ite (.not (.call 748 (.cons (.attr (.l 0) 5) .nil))) (.cons (.ite (.cmp .gt (.meth (.l 1) 104 .nil) (.c (.int (0)))) (.cons (.ex (.meth (.attr (.l 0) 72) 84 .nil)) .nil) .nil) (.cons (.ite (.and (.cmp .eq (.attr (.l 0) 5) (.c (.str 189))) (.meth (.l 1) 82 (.cons (.c (.int (1))) .nil))) (.cons (.ex (.call 900 (.cons (.l 0) (.cons (.l 2) .nil)))) .nil) .nil) (.cons (.ret (.c .none)) .nil))) .nil) (.cons (.ite (.meth (.l 1) 82 (.cons (.c (.int (32))) .nil)) (.cons (.ex (.meth (.l 3) 51 (.cons (.call 28 (.cons (.attr (.l 1) 47) (.cons (.attr (.l 1) 51) (.cons (.attr (.attr (.l 0) 66) 6) .nil)))) .nil))) .nil) .nil) (.cons (.ite (.cmp .eq (.meth (.l 1) 104 .nil) (.c (.int (0)))) (.cons (.ret (.c .none)) .nil) .nil) (.cons (.assign (.loc 4) (.attr (.l 3) 10)) (.cons (.assignT [(.loc 5),(.loc 6)] (.meth (.l 3) 83 (.cons (.attr (.l 1) 47) (.cons (.attr (.l 1) 53) (.cons (.meth (.l 1) 82 (.cons (.c (.int (1))) .nil)) .nil))))) (.cons (.ite (.cmp .gt (.bi .len (.cons (.attr (.l 1) 53) .nil)) (.c (.int (0)))) (.cons (.ex (.meth (.attr (.l 0) 72) 105 (.cons (.l 6) (.cons (.l 2) (.cons (.meth (.l 3) 130 .nil) .nil))))) .nil) .nil) (.cons (.ite (.or (.cmp .eq (.l 5) (.c (.int (0)))) (.meth (.l 1) 82 (.cons (.c (.int (1))) .nil))) (.cons (.ex (.meth (.attr (.l 0) 72) 84 .nil)) .nil) .nil) (.cons (.ite (.and (.attr (.l 3) 10) (.not (.l 4))) (.cons (.ex (.call 970 (.cons (.l 0) (.cons (.l 2) .nil)))) .nil) .nil) .nil)))))))))⟩
noncomputable def qd:Fn:=⟨2,2,[],(.cons (.ex (.meth (.attr (.l 0) 72) 84 .nil)) (.cons (.ite (.cmp .eq (.attr (.l 0) 5) (.c (.str 185))) (.cons (.ex (.call 900 (.cons (.l 0) (.cons (.l 1) .nil)))) .nil) (.cons (.ex (.call 893 (.cons (.l 0) (.cons (.c (.str 201)) .nil)))) .nil)) .nil))⟩
noncomputable def qe:Fn:=⟨2,3,[],(.cons (.assign (.loc 2) (.call 942 (.cons (.l 0) (.cons (.l 1) .nil)))) (.cons (.ite (.meth (.attr (.l 0) 72) 85 (.cons (.l 1) .nil)) (.cons (.ex (.meth (.l 2) 0 (.cons (.call 907 (.cons (.l 0) .nil)) .nil))) .nil) (.cons (.ite (.cmp .isnn (.meth (.attr (.l 0) 72) 131 .nil) (.c .none)) (.cons (.ex (.meth (.attr (.l 0) 73) 78 (.cons (.c (.int (3))) (.cons (.meth (.attr (.l 0) 72) 131 .nil) .nil)))) .nil) .nil) .nil)) (.cons (.ret (.l 2)) .nil)))⟩
noncomputable def GJ:Fn:=⟨2,2,[],(.cons (.assign (.attr (.l 0) 6) (.l 1)) (.cons (.assign (.attr (.l 0) 86) (.lst .nil)) .nil))⟩
noncomputable def uv:Fn:=⟨1,1,[],(.cons (.ret (.cmp .eq (.attr (.l 0) 86) (.lst .nil))) .nil)⟩
noncomputable def n4:Fn:=⟨3,3,[],(.cons (.ite (.call 42 (.cons (.l 1) (.cons (.l 2) (.cons (.attr (.l 0) 6) .nil)))) (.cons (.ret (.bin .sub (.c (.int (0))) (.call 35 (.cons (.l 1) (.cons (.l 2) (.cons (.attr (.l 0) 6) .nil)))))) .nil) .nil) (.cons (.ret (.call 35 (.cons (.l 2) (.cons (.l 1) (.cons (.attr (.l 0) 6) .nil))))) .nil))⟩
noncomputable def iu:Fn:=⟨4,6,[],(.cons (.ex (.meth (.l 0) 106 (.cons (.l 3) .nil))) (.cons (.assign (.loc 4) (.meth (.l 0) 107 (.cons (.l 1) (.cons (.l 3) .nil)))) (.cons (.ite (.cmp .lt (.l 4) (.c (.int (0)))) (.cons (.assign (.loc 2) (.slc (.l 2) (.bin .sub (.c (.int (0))) (.l 4)) (.c .none))) (.cons (.assign (.loc 4) (.c (.int (0)))) .nil)) .nil) (.cons (.assign (.loc 5) (.meth (.l 0) 108 (.cons (.l 4) (.cons (.l 2) (.cons (.l 3) .nil))))) (.cons (.ite (.cmp .ne (.l 5) (.lst .nil)) (.cons (.assign (.attr (.l 0) 86) (.meth (.l 0) 132 (.cons (.meth (.l 0) 148 (.cons (.l 5) (.cons (.l 3) .nil))) (.cons (.l 3) .nil)))) .nil) .nil) .nil)))))⟩
noncomputable def gL:Fn:=⟨4,11,[],(.cons (.assign (.loc 4) (.bin .add (.l 1) (.bi .len (.cons (.l 2) .nil)))) (.cons (.assignT [(.loc 5),(.loc 6)] (.tup (.cons (.lst .nil) (.cons (.l 1) .nil)))) (.cons (.forr [7,8] false (.attr (.l 0) 86) (.cons (.assign (.loc 9) (.meth (.l 0) 107 (.cons (.l 7) (.cons (.l 3) .nil)))) (.cons (.assign (.loc 10) (.bin .add (.l 9) (.bi .len (.cons (.l 8) .nil)))) (.cons (.ite (.cmp .le (.l 10) (.l 6)) (.cons .cont .nil) .nil) (.cons (.ite (.cmp .ge (.l 9) (.l 4)) (.cons .brk .nil) .nil) (.cons (.ite (.cmp .gt (.l 9) (.l 6)) (.cons (.ex (.meth (.l 5) 0 (.cons (.tup (.cons (.l 6) (.cons (.slc (.l 2) (.bin .sub (.l 6) (.l 1)) (.bin .sub (.l 9) (.l 1))) .nil))) .nil))) .nil) .nil) (.cons (.assign (.loc 6) (.l 10)) .nil))))))) (.cons (.ite (.cmp .lt (.l 6) (.l 4)) (.cons (.ex (.meth (.l 5) 0 (.cons (.tup (.cons (.l 6) (.cons (.slc (.l 2) (.bin .sub (.l 6) (.l 1)) (.c .none)) .nil))) .nil))) .nil) .nil) (.cons (.ret (.l 5)) .nil)))))⟩
noncomputable def n5:Fn:=⟨3,8,[],(.cons (.assignT [(.loc 3),(.loc 4)] (.tup (.cons (.lst .nil) (.cons (.bi .list (.cons (.l 1) .nil)) .nil)))) (.cons (.forr [5,6] false (.attr (.l 0) 86) (.cons (.assign (.loc 7) (.meth (.l 0) 107 (.cons (.l 5) (.cons (.l 2) .nil)))) (.cons (.whil (.and (.cmp .ne (.l 4) (.lst .nil)) (.cmp .lt (.sub (.sub (.l 4) (.c (.int (0)))) (.c (.int (0)))) (.l 7))) (.cons (.ex (.meth (.l 3) 0 (.cons (.meth (.l 4) 1 (.cons (.c (.int (0))) .nil)) .nil))) .nil)) (.cons (.ex (.meth (.l 3) 0 (.cons (.tup (.cons (.l 7) (.cons (.l 6) .nil))) .nil))) .nil)))) (.cons (.ret (.bin .add (.l 3) (.l 4))) .nil)))⟩
noncomputable def lP:Fn:=⟨3,9,[],(.cons (.assignT [(.loc 3),(.loc 4)] (.tup (.cons (.lst .nil) (.cons (.c .none) .nil)))) (.cons (.forr [5,6] false (.l 1) (.cons (.ite (.cmp .eq (.l 4) (.l 5)) (.cons (.assignT [(.loc 7),(.loc 8)] (.sub (.l 3) (.usub (.c (.int (1)))))) (.cons (.assign (.sub (.l 3) (.usub (.c (.int (1))))) (.tup (.cons (.l 7) (.cons (.bin .add (.l 8) (.l 6)) .nil)))) .nil)) (.cons (.ex (.meth (.l 3) 0 (.cons (.tup (.cons (.call 28 (.cons (.l 2) (.cons (.l 5) (.cons (.attr (.l 0) 6) .nil)))) (.cons (.l 6) .nil))) .nil))) .nil)) (.cons (.assign (.loc 4) (.bin .add (.l 5) (.bi .len (.cons (.l 6) .nil)))) .nil))) (.cons (.ret (.l 3)) .nil)))⟩
noncomputable def n6:Fn:=⟨2,5,[],(.cons (.whil (.cmp .ne (.attr (.l 0) 86) (.lst .nil)) (.cons (.assignT [(.loc 2),(.loc 3)] (.sub (.attr (.l 0) 86) (.c (.int (0))))) (.cons (.assign (.loc 4) (.meth (.l 0) 107 (.cons (.l 2) (.cons (.l 1) .nil)))) (.cons (.ite (.cmp .ge (.l 4) (.c (.int (0)))) (.cons (.ret (.c .none)) .nil) .nil) (.cons (.ite (.cmp .gt (.bin .add (.l 4) (.bi .len (.cons (.l 3) .nil))) (.c (.int (0)))) (.cons (.assign (.sub (.attr (.l 0) 86) (.c (.int (0)))) (.tup (.cons (.l 1) (.cons (.slc (.l 3) (.bin .sub (.c (.int (0))) (.l 4)) (.c .none)) .nil)))) (.cons (.ret (.c .none)) .nil)) .nil) (.cons (.ex (.meth (.attr (.l 0) 86) 1 (.cons (.c (.int (0))) .nil))) .nil)))))) .nil)⟩
noncomputable def j7:Fn:=⟨2,2,[],(.cons (.ex (.meth (.l 0) 106 (.cons (.l 1) .nil))) (.cons (.ite (.or (.cmp .eq (.attr (.l 0) 86) (.lst .nil)) (.cmp .ne (.sub (.sub (.attr (.l 0) 86) (.c (.int (0)))) (.c (.int (0)))) (.l 1))) (.cons (.ret (.c (.bytes []))) .nil) .nil) (.cons (.ret (.sub (.meth (.attr (.l 0) 86) 1 (.cons (.c (.int (0))) .nil)) (.c (.int (1))))) .nil)))⟩
noncomputable def j8:Fn:=⟨3,8,[],(.cons (.assign (.loc 3) (.meth (.l 0) 107 (.cons (.l 1) (.cons (.l 2) .nil)))) (.cons (.assign (.loc 4) (.lst .nil)) (.cons (.forr [5,6] false (.attr (.l 0) 86) (.cons (.assign (.loc 7) (.slc (.l 6) (.c .none) (.bi .max (.cons (.c (.int (0))) (.cons (.bin .sub (.l 3) (.meth (.l 0) 107 (.cons (.l 5) (.cons (.l 2) .nil)))) .nil))))) (.cons (.ite (.cmp .ne (.l 7) (.c (.bytes []))) (.cons (.ex (.meth (.l 4) 0 (.cons (.tup (.cons (.l 5) (.cons (.l 7) .nil))) .nil))) .nil) .nil) .nil))) (.cons (.assign (.attr (.l 0) 86) (.l 4)) .nil))))⟩
noncomputable def Dz:Fn:=⟨5,5,[(.int (1))],(.cons (.assign (.attr (.l 0) 6) (.l 2)) (.cons (.assign (.attr (.l 0) 33) (.l 3)) (.cons (.assign (.attr (.l 0) 15) (.l 4)) (.cons (.assign (.attr (.l 0) 39) (.call 28 (.cons (.l 1) (.cons (.c (.int (1))) (.cons (.l 2) .nil))))) (.cons (.assign (.attr (.l 0) 87) (.bi .barr .nil)) (.cons (.assign (.attr (.l 0) 88) (.new 1069 (.cons (.l 2) .nil))) (.cons (.assign (.attr (.l 0) 89) (.call 28 (.cons (.attr (.l 0) 39) (.cons (.l 3) (.cons (.l 2) .nil))))) (.cons (.assign (.attr (.l 0) 90) (.c .none)) (.cons (.assign (.attr (.l 0) 10) (.c (.bool false))) (.cons (.assign (.attr (.l 0) 91) (.c .none)) .nil))))))))))⟩
noncomputable def uw:Fn:=⟨1,1,[],(.cons (.ret (.call 28 (.cons (.attr (.l 0) 39) (.cons (.bin .sub (.attr (.l 0) 33) (.bi .len (.cons (.attr (.l 0) 87) .nil))) (.cons (.attr (.l 0) 6) .nil))))) .nil)⟩
noncomputable def j9:Fn:=⟨2,2,[],(.cons (.ite (.or (.attr (.l 0) 10) (.not (.call 42 (.cons (.attr (.l 0) 89) (.cons (.meth (.l 0) 133 .nil) (.cons (.attr (.l 0) 6) .nil)))))) (.cons (.ret (.c (.bool false))) .nil) .nil) (.cons (.ret (.cmp .ge (.call 35 (.cons (.attr (.l 0) 89) (.cons (.meth (.l 0) 133 .nil) (.cons (.attr (.l 0) 6) .nil)))) (.bi .max (.cons (.c (.int (1))) (.cons (.bi .min (.cons (.l 1) (.cons (.bin .fdiv (.attr (.l 0) 33) (.c (.int (2)))) .nil))) .nil))))) .nil))⟩
noncomputable def n7:Fn:=⟨1,1,[],(.cons (.ite (.call 42 (.cons (.attr (.l 0) 89) (.cons (.attr (.l 0) 39) (.cons (.attr (.l 0) 6) .nil)))) (.cons (.ret (.c (.int (0)))) .nil) .nil) (.cons (.ret (.call 35 (.cons (.attr (.l 0) 39) (.cons (.attr (.l 0) 89) (.cons (.attr (.l 0) 6) .nil))))) .nil))⟩
noncomputable def n8:Fn:=⟨1,1,[],(.cons (.ite (.meth (.l 0) 109 (.cons (.attr (.l 0) 15) .nil)) (.cons (.assign (.attr (.l 0) 89) (.meth (.l 0) 133 .nil)) .nil) .nil) (.cons (.ret (.meth (.l 0) 110 .nil)) .nil))⟩
noncomputable def dY:Fn:=⟨4,7,[],(.cons (.assign (.loc 4) (.call 49 (.cons (.l 1) (.cons (.attr (.l 0) 39) (.cons (.attr (.l 0) 6) .nil))))) (.cons (.assign (.loc 5) (.meth (.l 0) 111 (.cons (.l 1) (.cons (.l 2) .nil)))) (.cons (.ite (.and (.l 3) (.cmp .eq (.bi .len (.cons (.l 5) .nil)) (.bi .len (.cons (.l 2) .nil)))) (.cons (.ex (.meth (.l 0) 134 (.cons (.call 28 (.cons (.l 1) (.cons (.bi .len (.cons (.l 2) .nil)) (.cons (.attr (.l 0) 6) .nil)))) .nil))) .nil) .nil) (.cons (.ite (.cmp .isnn (.attr (.l 0) 90) (.c .none)) (.cons (.assign (.loc 5) (.meth (.l 0) 135 (.cons (.l 1) (.cons (.l 5) .nil)))) .nil) .nil) (.cons (.ite (.and (.not (.attr (.l 0) 10)) (.cmp .ne (.l 5) (.c (.bytes [])))) (.cons (.ex (.meth (.attr (.l 0) 88) 78 (.cons (.l 1) (.cons (.l 5) (.cons (.attr (.l 0) 39) .nil))))) .nil) .nil) (.cons (.assign (.loc 6) (.meth (.l 0) 112 .nil)) (.cons (.ret (.tup (.cons (.l 6) (.cons (.l 4) .nil)))) .nil)))))))⟩
noncomputable def kc:Fn:=⟨3,4,[],(.cons (.ite (.not (.call 42 (.cons (.l 1) (.cons (.attr (.l 0) 89) (.cons (.attr (.l 0) 6) .nil))))) (.cons (.ret (.ife (.cmp .ne (.l 2) (.c (.bytes []))) (.c (.bytes [])) (.l 2))) .nil) .nil) (.cons (.assign (.loc 3) (.call 35 (.cons (.l 1) (.cons (.attr (.l 0) 89) (.cons (.attr (.l 0) 6) .nil))))) (.cons (.ret (.bi .bytes (.cons (.slc (.l 2) (.c .none) (.l 3)) .nil))) .nil)))⟩
noncomputable def n9:Fn:=⟨2,2,[],(.cons (.ite (.and (.cmp .isn (.attr (.l 0) 90) (.c .none)) (.not (.call 42 (.cons (.l 1) (.cons (.attr (.l 0) 39) (.cons (.attr (.l 0) 6) .nil)))))) (.cons (.assign (.attr (.l 0) 90) (.l 1)) (.cons (.ex (.meth (.attr (.l 0) 88) 136 (.cons (.l 1) (.cons (.attr (.l 0) 39) .nil)))) .nil)) .nil) .nil)⟩
noncomputable def oa:Fn:=⟨3,3,[],(.cons (.ite (.not (.call 42 (.cons (.l 1) (.cons (.attr (.l 0) 90) (.cons (.attr (.l 0) 6) .nil))))) (.cons (.ret (.c (.bytes []))) .nil) .nil) (.cons (.ret (.slc (.l 2) (.c .none) (.call 35 (.cons (.l 1) (.cons (.attr (.l 0) 90) (.cons (.attr (.l 0) 6) .nil)))))) .nil))⟩
noncomputable def oe:Fn:=⟨1,2,[],(.cons (.assign (.loc 1) (.c (.bytes []))) (.cons (.ite (.not (.attr (.l 0) 10)) (.cons (.assign (.loc 1) (.meth (.attr (.l 0) 88) 137 (.cons (.attr (.l 0) 39) .nil))) .nil) .nil) (.cons (.ex (.meth (.attr (.l 0) 87) 3 (.cons (.l 1) .nil))) (.cons (.assign (.attr (.l 0) 39) (.call 28 (.cons (.attr (.l 0) 39) (.cons (.bi .len (.cons (.l 1) .nil)) (.cons (.attr (.l 0) 6) .nil))))) (.cons (.ite (.and (.cmp .eq (.attr (.l 0) 90) (.attr (.l 0) 39)) (.not (.attr (.l 0) 10))) (.cons (.assign (.attr (.l 0) 10) (.c (.bool true))) (.cons (.assign (.attr (.l 0) 39) (.call 28 (.cons (.attr (.l 0) 39) (.cons (.c (.int (1))) (.cons (.attr (.l 0) 6) .nil))))) .nil)) .nil) (.cons (.ret (.bi .len (.cons (.l 1) .nil))) .nil))))))⟩
noncomputable def ux:Fn:=⟨1,1,[],(.cons (.ret (.not (.meth (.attr (.l 0) 88) 138 .nil))) .nil)⟩
noncomputable def uy:Fn:=⟨1,1,[],(.cons (.ret (.bi .len (.cons (.attr (.l 0) 87) .nil))) .nil)⟩
noncomputable def uz:Fn:=⟨2,3,[],(.cons (.assign (.loc 2) (.bi .bytes (.cons (.slc (.attr (.l 0) 87) (.c .none) (.l 1)) .nil))) (.cons (.assign (.attr (.l 0) 87) (.slc (.attr (.l 0) 87) (.bi .len (.cons (.l 2) .nil)) (.c .none))) (.cons (.ret (.l 2)) .nil)))⟩
noncomputable def og:Fn:=⟨1,2,[],(.cons (.assign (.loc 1) (.bin .add (.bi .len (.cons (.attr (.l 0) 87) .nil)) (.ife (.attr (.l 0) 10) (.c (.int (1))) (.c (.int (0)))))) (.cons (.ret (.call 28 (.cons (.attr (.l 0) 39) (.cons (.bin .sub (.attr (.l 0) 6) (.l 1)) (.cons (.attr (.l 0) 6) .nil))))) .nil))⟩
noncomputable def fi:Fn:=⟨2,2,[],(.cons (.ite (.or (.cmp .isn (.attr (.l 0) 91) (.c .none)) (.call 42 (.cons (.attr (.l 0) 91) (.cons (.l 1) (.cons (.attr (.l 0) 6) .nil))))) (.cons (.ite (.call 42 (.cons (.meth (.l 0) 113 .nil) (.cons (.l 1) (.cons (.attr (.l 0) 6) .nil)))) (.cons (.assign (.attr (.l 0) 91) (.l 1)) .nil) .nil) .nil) .nil) .nil)⟩
noncomputable def ke:Fn:=⟨1,2,[],(.cons (.ite (.cmp .isn (.attr (.l 0) 91) (.c .none)) (.cons (.ret (.c (.int (0)))) .nil) .nil) (.cons (.assign (.loc 1) (.meth (.l 0) 113 .nil)) (.cons (.ite (.not (.call 42 (.cons (.l 1) (.cons (.attr (.l 0) 91) (.cons (.attr (.l 0) 6) .nil))))) (.cons (.assign (.attr (.l 0) 91) (.c .none)) (.cons (.ret (.c (.int (0)))) .nil)) .nil) (.cons (.ret (.call 35 (.cons (.l 1) (.cons (.attr (.l 0) 91) (.cons (.attr (.l 0) 6) .nil))))) .nil))))⟩
noncomputable def uA:Fn:=⟨2,5,[],(.cons (.assign (.loc 2) (.c (.int (0)))) (.cons (.ite (.cmp .lt (.l 1) (.bi .len (.cons (.l 0) .nil))) (.cons (.assign (.loc 2) (.sub (.l 0) (.l 1))) .nil) .nil) (.cons (.assign (.loc 3) (.bi .max (.cons (.bi .int (.cons (.l 2) .nil)) (.cons (.bi .int (.cons (.bin .sub (.usub (.c (.int (1)))) (.l 2)) .nil)) .nil)))) (.cons (.assign (.loc 4) (.bin .fmod (.bi .int (.cons (.bin .mul (.bin .add (.bin .add (.bin .add (.bin .fmod (.bi .int (.cons (.l 3) .nil)) (.c (.int (2147483629)))) (.bin .mul (.bin .mul (.c (.int (7919))) (.l 1)) (.l 1))) (.bin .mul (.c (.int (31))) (.l 1))) (.c (.int (17)))) (.c (.int (48271)))) .nil)) (.c (.int (2147483647))))) (.cons (.ret (.lst (.cons (.bin .mul (.l 3) (.bi .int (.cons (.cmp .ge (.l 3) (.bin .pow (.c (.int (10))) (.c (.int (18))))) .nil))) (.cons (.l 4) .nil)))) .nil)))))⟩
noncomputable def oh:Fn:=⟨2,3,[],(.cons (.ite (.cmp .gt (.sub (.l 0) (.c (.int (0)))) (.c (.int (0)))) (.cons (.assign (.loc 2) (.bin .fmod (.bi .int (.cons (.sub (.l 0) (.c (.int (0)))) .nil)) (.l 1))) (.cons (.assign (.sub (.l 0) (.c (.int (0)))) (.bin .fdiv (.sub (.l 0) (.c (.int (0)))) (.l 1))) (.cons (.ret (.l 2)) .nil))) .nil) (.cons (.assign (.sub (.l 0) (.c (.int (1)))) (.bin .fmod (.bi .int (.cons (.bin .add (.bin .mul (.sub (.l 0) (.c (.int (1)))) (.c (.int (39373)))) (.c (.int (7)))) .nil)) (.c (.int (2147483647))))) (.cons (.ret (.bin .fmod (.bi .int (.cons (.bin .fdiv (.bin .fmod (.bi .int (.cons (.bin .mul (.sub (.l 0) (.c (.int (1)))) (.sub (.l 0) (.c (.int (1))))) .nil)) (.c (.int (2147483629)))) (.c (.int (32)))) .nil)) (.l 1))) .nil)))⟩
noncomputable def uB:Fn:=⟨2,2,[],(.cons (.ret (.sub (.l 1) (.call 1221 (.cons (.l 0) (.cons (.bi .len (.cons (.l 1) .nil)) .nil))))) .nil)⟩
noncomputable def DA:Fn:=⟨3,5,[],(.cons (.assign (.loc 3) (.new 882 (.cons (.new 839 (.cons (.l 0) (.cons (.c (.int (4))) (.cons (.c (.int (40))) (.cons (.c (.int (16))) (.cons (.c (.int (10))) (.cons (.c (.int (5))) (.cons (.c (.int (60))) (.cons (.c (.int (3))) (.cons (.l 2) (.cons (.c (.int (7))) .nil))))))))))) (.cons (.tup (.cons (.c (.int (1))) (.cons (.c (.int (80))) .nil))) (.cons (.tup (.cons (.c (.int (2))) (.cons (.c (.int (90))) .nil))) (.cons (.c (.int (100))) .nil)))))) (.cons (.assignT [(.attr (.l 3) 9),(.attr (.l 3) 5)] (.tup (.cons (.new 1203 (.cons (.bin .sub (.l 0) (.c (.int (6)))) (.cons (.l 0) (.cons (.c (.int (16))) (.cons (.c (.int (4))) .nil))))) (.cons (.l 1) .nil)))) (.cons (.assignT [(.attr (.attr (.l 3) 69) 42),(.attr (.attr (.l 3) 69) 38),(.attr (.attr (.l 3) 69) 39),(.attr (.attr (.l 3) 69) 7)] (.tup (.cons (.c (.bool false)) (.cons (.c (.int (101))) (.cons (.c (.int (101))) (.cons (.c (.int (101))) .nil)))))) (.cons (.assign (.loc 4) (.dsp [200,39,201,202,203,92,12,13] (.cons (.lst .nil) (.cons (.c (.int (0))) (.cons (.c .none) (.cons (.c (.bool false)) (.cons (.c (.int (16))) (.cons (.c (.int (0))) (.cons (.c (.int (0))) (.cons (.c .none) .nil)))))))))) (.cons (.assignT [(.sub (.l 4) (.c (.str 204))),(.sub (.l 4) (.c (.str 5))),(.sub (.l 4) (.c (.str 215))),(.sub (.l 4) (.c (.str 51)))] (.tup (.cons (.c (.bool false)) (.cons (.l 1) (.cons (.c .none) (.cons (.c .none) .nil)))))) (.cons (.assignT [(.sub (.l 4) (.c (.str 6))),(.sub (.l 4) (.c (.str 11)))] (.tup (.cons (.l 0) (.cons (.l 2) .nil)))) (.cons (.ret (.lst (.cons (.l 3) (.cons (.l 4) .nil)))) .nil)))))))⟩
noncomputable def uC:Fn:=⟨2,2,[],(.cons (.ret (.bin .fmod (.bin .add (.bin .sub (.sub (.l 0) (.c (.str 6))) (.c (.int (5)))) (.l 1)) (.sub (.l 0) (.c (.str 6))))) .nil)⟩
noncomputable def uD:Fn:=⟨1,1,[],(.cons (.ret (.bin .add (.sub (.l 0) (.c (.str 39))) (.bi .int (.cons (.sub (.l 0) (.c (.str 202))) .nil)))) .nil)⟩
noncomputable def kf:Fn:=⟨4,5,[],(.cons (.assign (.loc 4) (.sub (.l 0) (.c (.str 204)))) (.cons (.assign (.sub (.l 0) (.c (.str 204))) (.or (.l 2) (.not (.l 1)))) (.cons (.assign (.sub (.l 0) (.c (.str 12))) (.bin .add (.sub (.l 0) (.c (.str 12))) (.c (.int (1))))) (.cons (.ite (.or (.not (.l 1)) (.or (.l 4) (.or (.l 2) (.or (.cmp .le (.sub (.l 0) (.c (.str 11))) (.c (.int (0)))) (.cmp .gt (.sub (.l 0) (.c (.str 12))) (.c (.int (1)))))))) (.cons (.assign (.sub (.l 0) (.c (.str 12))) (.c (.int (2)))) .nil) (.cons (.ite (.cmp .isn (.sub (.l 0) (.c (.str 13))) (.c .none)) (.cons (.assign (.sub (.l 0) (.c (.str 13))) (.bin .add (.l 3) (.sub (.l 0) (.c (.str 11))))) .nil) .nil) .nil)) .nil))))⟩
noncomputable def bA:Fn:=⟨6,9,[],(.cons (.ite (.cmp .notin (.sub (.l 0) (.c (.str 5))) (.lst (.cons (.c (.str 183)) (.cons (.c (.str 184)) (.cons (.c (.str 185)) .nil))))) (.cons (.ite (.or (.cmp .ne (.l 2) (.c (.bytes []))) (.l 3)) (.cons (.assign (.sub (.l 0) (.c (.str 12))) (.c (.int (2)))) .nil) .nil) (.cons (.ite (.and (.cmp .eq (.sub (.l 0) (.c (.str 5))) (.c (.str 189))) (.l 3)) (.cons (.assign (.sub (.l 0) (.c (.str 215))) (.bin .add (.l 5) (.c (.int (7))))) .nil) .nil) (.cons (.ret (.c .none)) .nil))) .nil) (.cons (.assign (.loc 6) (.ife (.cmp .isn (.sub (.l 0) (.c (.str 51))) (.c .none)) (.c (.int (0))) (.bi .int (.cons (.sub (.l 0) (.c (.str 51))) .nil)))) (.cons (.ite (.and (.cmp .isnn (.l 4) (.c .none)) (.cmp .gt (.bin .add (.l 1) (.l 4)) (.bi .max (.cons (.bi .int (.cons (.sub (.l 0) (.c (.str 92))) .nil)) (.cons (.l 6) .nil))))) (.cons (.assign (.sub (.l 0) (.c (.str 51))) (.bin .add (.l 1) (.l 4))) .nil) .nil) (.cons (.ite (.and (.cmp .eq (.l 2) (.c (.bytes []))) (.not (.l 3))) (.cons (.ret (.c .none)) .nil) .nil) (.cons (.assign (.loc 7) (.comp (.l 0) (.bi .range (.cons (.l 1) (.cons (.bin .add (.l 1) (.bi .len (.cons (.l 2) .nil))) .nil))) (.cmp .lt (.l 0) (.sub (.l 1) (.c (.str 203)))) [0])) (.cons (.ite (.and (.l 3) (.and (.cmp .eq (.bi .len (.cons (.l 7) .nil)) (.bi .len (.cons (.l 2) .nil))) (.and (.cmp .isn (.sub (.l 0) (.c (.str 201))) (.c .none)) (.cmp .ge (.bin .add (.l 1) (.bi .len (.cons (.l 2) .nil))) (.sub (.l 0) (.c (.str 39))))))) (.cons (.assign (.sub (.l 0) (.c (.str 201))) (.bin .add (.l 1) (.bi .len (.cons (.l 2) .nil)))) .nil) .nil) (.cons (.assign (.loc 8) (.sub (.l 0) (.c (.str 39)))) (.cons (.ex (.meth (.sub (.l 0) (.c (.str 200))) 3 (.cons (.comp (.l 0) (.l 7) (.cmp .notin (.l 0) (.sub (.l 1) (.c (.str 200)))) [0]) .nil))) (.cons (.whil (.cmp .isin (.sub (.l 0) (.c (.str 39))) (.sub (.l 0) (.c (.str 200)))) (.cons (.assign (.sub (.l 0) (.c (.str 39))) (.bin .add (.sub (.l 0) (.c (.str 39))) (.c (.int (1))))) .nil)) (.cons (.ite (.cmp .ne (.l 2) (.c (.bytes []))) (.cons (.ex (.call 1256 (.cons (.l 0) (.cons (.cmp .le (.l 1) (.l 8)) (.cons (.cmp .ne (.comp (.l 0) (.sub (.l 0) (.c (.str 200))) (.cmp .gt (.l 0) (.sub (.l 1) (.c (.str 39)))) [0]) (.lst .nil)) (.cons (.l 5) .nil)))))) .nil) .nil) (.cons (.ite (.or (.cmp .eq (.sub (.l 0) (.c (.str 39))) (.l 8)) (.l 3)) (.cons (.assign (.sub (.l 0) (.c (.str 12))) (.c (.int (2)))) .nil) .nil) (.cons (.ite (.cmp .eq (.sub (.l 0) (.c (.str 201))) (.sub (.l 0) (.c (.str 39)))) (.cons (.assignT [(.sub (.l 0) (.c (.str 202))),(.sub (.l 0) (.c (.str 12)))] (.tup (.cons (.c (.bool true)) (.cons (.c (.int (2))) .nil)))) (.cons (.assign (.sub (.l 0) (.c (.str 5))) (.sub (.dsp [183,184,185] (.cons (.c (.str 186)) (.cons (.c (.str 187)) (.cons (.c (.str 189)) .nil)))) (.sub (.l 0) (.c (.str 5))))) (.cons (.assign (.sub (.l 0) (.c (.str 215))) (.ife (.cmp .eq (.sub (.l 0) (.c (.str 5))) (.c (.str 189))) (.bin .add (.l 5) (.c (.int (7)))) (.c .none))) .nil))) .nil) .nil))))))))))))⟩
noncomputable def iw:Fn:=⟨2,3,[],(.cons (.ite (.and (.cmp .lt (.sub (.l 0) (.c (.str 12))) (.c (.int (2)))) (.or (.cmp .isn (.sub (.l 0) (.c (.str 13))) (.c .none)) (.cmp .gt (.sub (.l 0) (.c (.str 13))) (.l 1)))) (.cons (.ret (.lst .nil)) .nil) .nil) (.cons (.assignT [(.sub (.l 0) (.c (.str 12))),(.sub (.l 0) (.c (.str 13)))] (.tup (.cons (.c (.int (0))) (.cons (.c .none) .nil)))) (.cons (.ite (.and (.not (.sub (.l 0) (.c (.str 202)))) (.cmp .ge (.bin .sub (.bin .add (.sub (.l 0) (.c (.str 92))) (.c (.int (16)))) (.sub (.l 0) (.c (.str 203)))) (.c (.int (4))))) (.cons (.assign (.sub (.l 0) (.c (.str 203))) (.bin .add (.sub (.l 0) (.c (.str 92))) (.c (.int (16))))) .nil) .nil) (.cons (.assign (.loc 2) (.bi .max (.cons (.c (.int (0))) (.cons (.bin .sub (.sub (.l 0) (.c (.str 203))) (.call 1249 (.cons (.l 0) .nil))) .nil)))) (.cons (.ret (.lst (.cons (.tup (.cons (.c (.int (80))) (.cons (.c (.int (90))) (.cons (.c (.int (101))) (.cons (.call 1242 (.cons (.l 0) (.cons (.call 1249 (.cons (.l 0) .nil)) .nil))) (.cons (.c (.int (16))) (.cons (.l 2) (.cons (.c (.int (0))) (.cons (.c (.bytes [])) (.cons (.c (.bytes [])) .nil)))))))))) .nil))) .nil)))))⟩
noncomputable def cn:Fn:=⟨7,11,[],(.cons (.assign (.loc 7) (.bin .add (.bin .add (.c (.int (16))) (.bi .int (.cons (.l 4) .nil))) (.ife (.cmp .isn (.l 5) (.c .none)) (.c (.int (0))) (.c (.int (32)))))) (.cons (.assign (.loc 8) (.new 702 (.cons (.c (.int (90))) (.cons (.c (.int (80))) (.cons (.call 1242 (.cons (.l 1) (.cons (.l 2) .nil))) (.cons (.c (.int (101))) (.cons (.l 7) (.cons (.c (.int (9))) (.cons (.ife (.cmp .isn (.l 5) (.c .none)) (.c (.int (0))) (.l 5)) (.cons (.c (.bytes [])) (.cons (.l 3) .nil))))))))))) (.cons (.ex (.call 963 (.cons (.l 0) (.cons (.l 8) (.cons (.l 6) .nil))))) (.cons (.ex (.call 1261 (.cons (.l 1) (.cons (.l 2) (.cons (.l 3) (.cons (.l 4) (.cons (.l 5) (.cons (.l 6) .nil)))))))) (.cons (.ite (.cmp .ne (.comp (.meth (.l 0) 139 .nil) (.call 977 (.cons (.l 0) (.cons (.l 6) .nil))) (.c (.bool true)) []) (.call 1268 (.cons (.l 1) (.cons (.l 6) .nil)))) (.cons (.ret (.c (.bool false))) .nil) .nil) (.cons (.ite (.or (.cmp .ne (.meth (.attr (.l 0) 73) 129 (.cons (.c (.int (3))) .nil)) (.sub (.l 1) (.c (.str 13)))) (.cmp .ne (.meth (.attr (.l 0) 73) 129 (.cons (.c (.int (4))) .nil)) (.sub (.l 1) (.c (.str 215))))) (.cons (.ret (.c (.bool false))) .nil) .nil) (.cons (.assign (.loc 9) (.attr (.l 0) 9)) (.cons (.ite (.cmp .ne (.lst (.cons (.attr (.l 0) 5) (.cons (.attr (.l 9) 10) .nil))) (.lst (.cons (.sub (.l 1) (.c (.str 5))) (.cons (.sub (.l 1) (.c (.str 202))) .nil)))) (.cons (.ret (.c (.bool false))) .nil) .nil) (.cons (.ite (.cmp .ne (.attr (.l 9) 39) (.call 1242 (.cons (.l 1) (.cons (.call 1249 (.cons (.l 1) .nil)) .nil)))) (.cons (.ret (.c (.bool false))) .nil) .nil) (.cons (.assign (.loc 10) (.ife (.or (.cmp .isn (.sub (.l 1) (.c (.str 51))) (.c .none)) (.cmp .le (.sub (.l 1) (.c (.str 51))) (.sub (.l 1) (.c (.str 92))))) (.c (.int (0))) (.bin .sub (.sub (.l 1) (.c (.str 51))) (.sub (.l 1) (.c (.str 92)))))) (.cons (.assign (.sub (.l 1) (.c (.str 51))) (.ife (.cmp .eq (.l 10) (.c (.int (0)))) (.c .none) (.sub (.l 1) (.c (.str 51))))) (.cons (.ret (.and (.cmp .eq (.meth (.l 9) 140 .nil) (.bin .sub (.sub (.l 1) (.c (.str 39))) (.sub (.l 1) (.c (.str 92))))) (.cmp .eq (.meth (.l 9) 141 .nil) (.l 10)))) .nil))))))))))))⟩
noncomputable def uE:Fn:=⟨4,6,[],(.cons (.assign (.loc 4) (.meth (.attr (.l 0) 9) 92 (.cons (.l 3) .nil))) (.cons (.assign (.loc 5) (.slc (.l 2) (.sub (.l 1) (.c (.str 92))) (.bi .min (.cons (.sub (.l 1) (.c (.str 39))) (.cons (.bin .add (.sub (.l 1) (.c (.str 92))) (.l 3)) .nil))))) (.cons (.assign (.sub (.l 1) (.c (.str 92))) (.bin .add (.sub (.l 1) (.c (.str 92))) (.bi .len (.cons (.l 5) .nil)))) (.cons (.ret (.cmp .eq (.l 4) (.l 5))) .nil))))⟩
noncomputable def uF:Fn:=⟨1,14,[],(.cons (.assignT [(.loc 1),(.loc 2)] (.tup (.cons (.call 1228 (.cons (.l 0) (.cons (.lst (.cons (.c (.int (256))) (.cons (.bin .pow (.c (.int (2))) (.c (.int (32)))) .nil))) .nil))) (.cons (.call 1228 (.cons (.l 0) (.cons (.lst (.cons (.c (.int (3))) (.cons (.c (.int (9))) (.cons (.c (.int (15))) (.cons (.c (.int (16))) (.cons (.c (.int (22))) .nil)))))) .nil))) .nil)))) (.cons (.assign (.loc 3) (.call 1228 (.cons (.l 0) (.cons (.lst (.cons (.c (.str 183)) (.cons (.c (.str 183)) (.cons (.c (.str 184)) (.cons (.c (.str 185)) (.cons (.c (.str 186)) (.cons (.c (.str 189)) .nil))))))) .nil)))) (.cons (.assign (.loc 4) (.bi .bytes (.cons (.bi .range (.cons (.c (.int (1))) (.cons (.bin .add (.l 2) (.c (.int (1)))) .nil))) .nil))) (.cons (.assignT [(.loc 5),(.loc 6)] (.call 1235 (.cons (.l 1) (.cons (.l 3) (.cons (.call 1228 (.cons (.l 0) (.cons (.lst (.cons (.c (.int (0))) (.cons (.c (.int (2))) (.cons (.c (.int (3))) .nil)))) .nil))) .nil))))) (.cons (.assign (.loc 7) (.c (.int (1)))) (.cons (.forr [8] true (.bi .range (.cons (.bin .add (.c (.int (3))) (.call 1221 (.cons (.l 0) (.cons (.c (.int (7))) .nil)))) .nil)) (.cons (.assignT [(.loc 9),(.loc 7)] (.tup (.cons (.sub (.l 6) (.c (.str 39))) (.cons (.bin .add (.l 7) (.call 1221 (.cons (.l 0) (.cons (.c (.int (3))) .nil)))) .nil)))) (.cons (.assign (.loc 10) (.bi .min (.cons (.bi .int (.cons (.call 1228 (.cons (.l 0) (.cons (.lst (.cons (.l 9) (.cons (.l 9) (.cons (.l 9) (.cons (.bin .add (.l 9) (.c (.int (2)))) (.cons (.bi .max (.cons (.c (.int (0))) (.cons (.bin .sub (.l 9) (.c (.int (2)))) .nil))) (.cons (.c (.int (0))) .nil))))))) .nil))) .nil)) (.cons (.l 2) .nil)))) (.cons (.assign (.loc 11) (.slc (.l 4) (.l 10) (.bin .add (.l 10) (.call 1228 (.cons (.l 0) (.cons (.lst (.cons (.c (.int (0))) (.cons (.c (.int (1))) (.cons (.c (.int (3))) (.cons (.c (.int (4))) (.cons (.c (.int (5))) (.cons (.c (.int (9))) .nil))))))) .nil)))))) (.cons (.assign (.loc 12) (.and (.cmp .eq (.bin .add (.l 10) (.bi .len (.cons (.l 11) .nil))) (.l 2)) (.cmp .eq (.call 1221 (.cons (.l 0) (.cons (.c (.int (2))) .nil))) (.c (.int (0)))))) (.cons (.assign (.loc 13) (.call 1228 (.cons (.l 0) (.cons (.lst (.cons (.c .none) (.cons (.c .none) (.cons (.c .none) (.cons (.c (.int (0))) (.cons (.c (.int (2))) (.cons (.c (.int (6))) .nil))))))) .nil)))) (.cons (.ite (.not (.call 1273 (.cons (.l 5) (.cons (.l 6) (.cons (.l 10) (.cons (.l 11) (.cons (.l 12) (.cons (.l 13) (.cons (.l 7) .nil))))))))) (.cons (.ret (.c (.bool false))) .nil) .nil) (.cons (.ite (.not (.call 1280 (.cons (.l 5) (.cons (.l 6) (.cons (.l 4) (.cons (.call 1228 (.cons (.l 0) (.cons (.lst (.cons (.c (.int (0))) (.cons (.c (.int (0))) (.cons (.c (.int (1))) (.cons (.c (.int (5))) (.cons (.c (.int (9))) .nil)))))) .nil))) .nil)))))) (.cons (.ret (.c (.bool false))) .nil) .nil) .nil)))))))) (.cons (.ret (.c (.bool true))) .nil)))))))⟩
noncomputable def DB:Fn:=⟨0,2,[],(.cons (.assignT [(.loc 0),(.loc 1)] (.call 1235 (.cons (.c (.int (256))) (.cons (.c (.str 185)) (.cons (.c (.int (3))) .nil))))) (.cons (.ite (.or (.not (.call 1273 (.cons (.l 0) (.cons (.l 1) (.cons (.c (.int (0))) (.cons (.c (.bytes [97])) (.cons (.c (.bool false)) (.cons (.c .none) (.cons (.c (.int (1))) .nil))))))))) (.not (.call 1273 (.cons (.l 0) (.cons (.l 1) (.cons (.c (.int (1))) (.cons (.c (.bytes [])) (.cons (.c (.bool true)) (.cons (.c .none) (.cons (.c (.int (2))) .nil)))))))))) (.cons (.ret (.c (.bool false))) .nil) .nil) (.cons (.ret (.and (.cmp .eq (.sub (.l 1) (.c (.str 215))) (.c (.int (9)))) (.and (.call 1273 (.cons (.l 0) (.cons (.l 1) (.cons (.c (.int (1))) (.cons (.c (.bytes [])) (.cons (.c (.bool true)) (.cons (.c .none) (.cons (.c (.int (5))) .nil)))))))) (.cmp .eq (.meth (.attr (.l 0) 73) 129 (.cons (.c (.int (4))) .nil)) (.c (.int (12))))))) .nil)))⟩
noncomputable def uG:Fn:=⟨1,1,[],(.cons (.ret (.and (.call 1287 (.cons (.call 1214 (.cons (.l 0) (.cons (.c (.int (0))) .nil))) .nil)) (.call 1294 .nil))) .nil)⟩
noncomputable def ye:Fn:=⟨2,3,[],(.cons (.ite (.cmp .eq (.l 1) (.c (.str 198))) (.cons (.ret (.ife (.cmp .eq (.l 0) (.c (.str 180))) (.c (.str 180)) (.ife (.cmp .eq (.l 0) (.c (.str 179))) (.c .none) (.c (.str 179))))) .nil) .nil) (.cons (.ite (.cmp .eq (.l 1) (.c (.str 199))) (.cons (.ret (.ife (.cmp .eq (.l 0) (.c (.str 179))) (.c .none) (.c (.str 179)))) .nil) .nil) (.cons (.ite (.cmp .eq (.l 1) (.c (.str 95))) (.cons (.ret (.ife (.cmp .isin (.l 0) (.tup (.cons (.c (.str 179)) (.cons (.c (.str 180)) (.cons (.c (.str 189)) .nil))))) (.c .none) (.c (.str 179)))) .nil) .nil) (.cons (.assign (.loc 2) (.tab 727 0 1)) (.cons (.ret (.ife (.cmp .isn (.l 2) (.c .none)) (.tab 734 0 1) (.l 2))) .nil)))))⟩
noncomputable def DC:List (Nat×Fn):=[(741,ye),(28,Ge),(35,Gf),(42,Gg),(49,Gh),(70,Ii),(78,Ba),(85,Ij),(92,Bb),(99,Ik),(106,Gi),(127,Gj),(134,Gk),(211,Gl),(288,Gm),(388,Gn),(395,Gp),(444,Gq),(479,Gr),(515,Gs),(529,Gu),(536,Gv),(543,Gw),(586,Gx),(628,Gy),(635,Gz),(678,Bc),(685,Bd),(692,um),(699,Be),(748,GA),(755,GB),(768,GC),(775,Bf),(782,Bg),(789,qc),(796,uq),(836,GD),(850,GF),(864,GG),(871,Bh),(879,Bi),(893,GH),(900,Bj),(907,Bk),(928,GI),(935,Bl),(942,uu),(949,Bm),(963,dz),(970,qd),(977,qe),(991,GJ),(1003,uv),(1010,n4),(1017,iu),(1024,gL),(1031,n5),(1038,lP),(1045,n6),(1052,j7),(1066,j8),(1088,Dz),(1095,uw),(1102,j9),(1109,n7),(1116,n8),(1123,dY),(1130,kc),(1137,n9),(1144,oa),(1151,oe),(1158,ux),(1165,uy),(1172,uz),(1186,og),(1193,fi),(1200,ke),(1214,uA),(1221,oh),(1228,uB),(1235,DA),(1242,uC),(1249,uD),(1256,kf),(1261,bA),(1268,iw),(1273,cn),(1280,uE),(1287,uF),(1294,DB),(1301,uG)]
noncomputable def rz:List (Nat×Fn)→Nat→Option Fn
 |[],_=>none
 |(a,F)::r,x=>if Nat.beq a x then some F else rz r x
noncomputable def fns(f:Nat):Option Fn:=rz DC f
end Mine.Internal
end
section
namespace Mine.Internal
open PySem PySem.Spec PySem.Calls PyProof.Rows PySem.W PySem.SeqAt
noncomputable def rows(l:List Obj):Nat→List (List Obj)
 |0=>[]
 |n+1=>l::rows (l.drop 36) n
noncomputable def at_(t:List (List Obj))(a:Nat):Option Obj:=match t[a / 36]? with
 |some r=>match r[a % 36]? with
  |some o=>if o.isFreed then none else some o
  |none=>none
 |none=>none
noncomputable def pickK(t:List (List Obj)):List Nat→Frag
 |[]=>[]
 |a::r=>match at_ t a with
  |some o=>(a,o)::pickK t r
  |none=>pickK t r
noncomputable def refsOf:Value→List Nat
 | .ref a=>[a]
 |_=>[]
noncomputable def z8 (v:MV)(V:Value):Bool:=match v with
 | .none=>match V with
  | .none=>true
  |_=>false
 | .bool a=>match V with
  | .bool b=>a==b
  |_=>false
 | .int a=>match V with
  | .int b _=>decide (a=b)
  |_=>false
 | .bytes a=>match V with
  | .bytes b _=>decide (a=b.toList)
  |_=>false
 |_=>false
noncomputable def mT:List MV→List Value→Bool
 |[],l=>l.isEmpty
 |v::r,l=>match l with
  |[]=>false
  |V::R=>z8 v V&&mT r R
noncomputable def qf(d:Data):Option (Array Value):=match d with
 | .seq items _=>some items
 |_=>none
noncomputable def uH(K:Frag)(v:Value)(dfl:List MV):Bool:=match v with
 | .none=>dfl.isEmpty
 | .ref T=>match K.lookup T with
  |some o=>match qf o.data with
   |some items=>mT dfl items.toList
   |none=>false
  |none=>false
 |_=>false
noncomputable def uI(d:Data):Option FuncData:=match d with
 | .func fd=>some fd
 |_=>none
noncomputable def gb(t:List (List Obj))(a:Nat):Option FuncData:=match at_ t a with
 |some o=>uI o.data
 |none=>none
noncomputable def Bn(K:Frag)(fd:FuncData):Bool:=Nat.beq fd.globals mainGlobals&&(Nat.beq fd.builtins builtinsNs&&codeIn K fd.code fd.qualname)
noncomputable def oi(t:List (List Obj))(a:Nat)(F:Fn):Bool:=match gb t a with
 |some fd=>Bn (pickK t (a::(refsOf fd.code++refsOf fd.defaults))) fd&&(uH (pickK t (a::(refsOf fd.code++refsOf fd.defaults))) fd.defaults F.dfl&&F7 fd F)
 |none=>false
noncomputable def uJ(l:List (Nat×Nat×Nat))(c:Nat):List (Nat×Nat):=l.filterMap fun x=>if Nat.beq x.1 c then some x.2 else none
noncomputable def DD(d:Data):Option ClassData:=match d with
 | .cls cd=>some cd
 |_=>none
noncomputable def clsAt(t:List (List Obj))(a:Nat):Option ClassData:=match at_ t a with
 |some o=>DD o.data
 |none=>none
noncomputable def uK(K:Frag)(c f:Nat):Bool:=
  makesIn K c&&(findIn K (.ref c) "__init__" ==some (some (.ref f))&&(typeIn K (.ref f)==some (.type "function")&&(findIn K (.ref c) "__setattr__" ==some (some (.builtin "object.__setattr__"))&&
  (plainOver K c&&(hasDictIn K c&&(plainGet K c "" &&(keepIn K (.ref c)&&
  ((j0.all fun x=> !Nat.beq x.1 c||(findIn K (.ref c) (nm x.2)==some none&&takerIn K c (nm x.2)==some none))&&
  ((uJ jZ c).all fun x=>findIn K (.ref c) (nm x.1)==some (some (.ref x.2))&&(isFn K (.ref x.2)&&keepIn K (.ref x.2)))))))))))
noncomputable def mU(t:List (List Obj))(c f:Nat):Bool:=match clsAt t c with
 |some cd=>uK (pickK t (c::cd.ns::f::(uJ jZ c).map (·.2))) c f
 |none=>false
noncomputable def DE(es:List DictEntry)(name:Str):Option Value:=(es.find? (·.key.isStr name)).map (·.val)
noncomputable def kg(es:List DictEntry):Bool:=es.all fun e=>match e.key with| .str _ _=>true|_=>false
noncomputable def HV(v:MV)(V:Value):Bool:=match v with
 | .int a=>match V with
  | .int b _=>decide (a=b)
  |_=>false
 | .str k=>match V with
  | .str s _=>i3 k s
  |_=>false
 | .fn a=>match V with
  | .ref b=>Nat.beq a b
  |_=>false
 | .cls a=>match V with
  | .ref b=>Nat.beq a b
  |_=>false
 |_=>false
noncomputable def GK:List BK:=[.len,.max,.min,.int,.bytes,.range,.list,.barr]
noncomputable def uL(v V:Value):Bool:=match v with
 | .builtin a=>match V with
  | .builtin b=>a==b
  |_=>false
 | .type a=>match V with
  | .type b=>a==b
  |_=>false
 |_=>false
noncomputable def yf(d:Data):Option (Array DictEntry):=match d with
 | .dict es _=>some es
 |_=>none
noncomputable def dictAt(t:List (List Obj))(a:Nat):Option (Array DictEntry):=match at_ t a with
 |some o=>yf o.data
 |none=>none
noncomputable def qg(o:Option Value)(f:Value→Bool):Bool:=match o with
 |some V=>f V
 |none=>false
noncomputable def mV(t:List (List Obj)):Bool:=match dictAt t mainGlobals with
 |some es=>kg es.toList&&((lM.all fun p=>qg (DE es.toList (Str.ofString p.1)) (HV p.2))&&GK.all fun b=>(DE es.toList (Str.ofString (i4 b))).isNone)
 |none=>false
noncomputable def uM(t:List (List Obj)):Bool:=match dictAt t builtinsNs with
 |some es=>kg es.toList&&GK.all fun b=>qg (DE es.toList (Str.ofString (i4 b))) fun V=>uL V (Dy b)
 |none=>false
noncomputable def ix(t:List (List Obj))(p:String×MV):Bool:=match p.2 with
 | .fn a=>(gb t a).isSome
 | .cls c=>(dC dW c).isSome
 |_=>true
noncomputable def DF:Value→Bool
 | .none=>true
 |_=>false
noncomputable def mW(t:List (List Obj))(f:Nat)(T:List (Nat×Nat×Nat)):Bool:=match gb t f with
 |some fd=>Bn (pickK t (f::refsOf fd.code)) fd&&(DF fd.defaults&&yd fd T)
 |none=>false
noncomputable def Bo(t:List (List Obj)):Bool:=
 (DC.all fun p=>oi t p.1 p.2)&&((dW.all fun p=>mU t p.1 p.2)&&(mV t&&(uM t&&((lM.all (ix t))&&((at_ t sysModules).isSome&&(lN.all fun p=>mW t p.1 p.2))))))
noncomputable def z9 (l:List Obj):Bool:=Bo (rows l 40)
noncomputable def yg(l:List Obj):Bool:=(DC.take 52).all fun p=>oi (rows l 40) p.1 p.2
noncomputable def yh(l:List Obj):Bool:=((DC.drop 52).all fun p=>oi (rows l 40) p.1 p.2)&&
 ((dW.all fun p=>mU (rows l 40) p.1 p.2)&&(mV (rows l 40)&&(uM (rows l 40)&&((lM.all (ix (rows l 40)))&&((at_ (rows l 40) sysModules).isSome&&(lN.all fun p=>mW (rows l 40) p.1 p.2))))))
theorem Bp{l:List Obj}(h1:yg l=true)(h2:yh l=true):z9 l=true:=by
 unfold z9 Bo
 rw[←List.take_append_drop 52 DC,List.all_append]
 obtain⟨h3,h4⟩:=Bool.and_eq_true_iff.mp h2
 exact Bool.and_eq_true_iff.mpr ⟨Bool.and_eq_true_iff.mpr ⟨h1,h3⟩,h4⟩
end Mine.Internal
end
section
open PySem PySem.W PySem.Calls PyProof.Rows
namespace Mine.Internal
noncomputable def F8 (tb:String→Option Builtin)(p:Program)(w:World)(n₀:Nat)(ann:Option Value):Nat→SharedT→Thread→Option SharedT
 |0,_,_=>none
 |n+1,s,t=>match through t with
  |true=>some s
  |false=>match stepOk n₀ ann t with
   |false=>none
   |true=>match stepT (denote tb) p w s t with
    |some (s',t')=>F8 tb p w n₀ ann n s' t'
    |none=>none
noncomputable def sH:BT→Nat→List Obj→BT
 |t,_,[]=>t
 |t,n,o::r=>sH (t.ins n o) (n+1) r
noncomputable def uN:BT→Nat→List Obj→Bool
 |_,_,[]=>true
 |t,n,o::r=>match((t.ins n o).get n).isSome with
  |true=>uN (t.ins n o) (n+1) r
  |false=>false
noncomputable def Bq(p:Program)(H:Heap)(d:Drawn)(k M:Nat)(w:World)(os:OsState):Option SharedT:=
 F8 treeTable p w H.objs.size (H.nsMap mainGlobals "__annotations__") M ⟨sH .nil 0 H.objs.toList,H.objs.size,H.life,#[],d,k,os⟩ (topStub p)
noncomputable def sI(ck:List Obj→Bool)(p q:Program)(loose:List Str)(Xt:Shared→Bool)(H:Heap)(d:Drawn)(k M:Nat)(w:World)(os:OsState):=
 (H.isNs mainGlobals&&uN .nil 0 H.objs.toList,(Bq p H d k M w os).map fun s=>(staticsOk (importedModules p.main.body) H s.abs.heap&&namesBound p s.abs.heap&&gensDone s.abs&&laidKept H s.abs.heap,openSeen q loose (importedModules p.main.body) Xt true s.abs,ck s.abs.heap.objs.toList))
noncomputable def sJ(ck:List Obj→Bool)(p:Program)(H:Heap)(d:Drawn)(k M:Nat)(w:World)(os:OsState):Option Bool:=(Bq p H d k M w os).map fun s=>ck s.abs.heap.objs.toList
noncomputable def rA(q:Program)(loose:List Str):=(true,some (true,openGood q loose,true))
theorem uO: @sJ= @sJ:=rfl
theorem uP: @sI= @sI:=rfl
noncomputable def lQ(l:OpenLaw):Bool:=l.row.wellSaid
noncomputable def lR(l:OpenLaw):Bool:=decide (l.foot≤(behindTheImports l.prog).length)&&l.footing.all footLine&&noClassBlock l.prog l.footing&&
 l.most.all (fun n=>decide (63≤n))&&l.bound.all (fun n=>decide (2 ^ 63≤n))&&
 noRoadLSs {strict:=true,foot:=some l.bound',writes:=l.writes,may:=l.may} l.footing&&
 defStands l.about l.above&&l.namesIt
noncomputable def lS(l:OpenLaw):Bool:=
 (["type","isinstance","issubclass","getattr","hasattr"]:List Str).all (fun n=>l.about !=[n])&&l.bound'.all (fun n=> !builtinNamed n||l.about==[n]|| !l.reads n)&&(!l.writes||(l.prog.main.body.flatMap importedNames).all fun n=> !l.reads n)&&(l.prog.main.body.flatMap importedNames).all (fun n=> !l.reads n||(drawsOf n l.prog.main.body).all fun mn=>mn.2 !=("attrgetter" :Str)&&mn.2 !=("methodcaller" :Str))
noncomputable def lT(l:OpenLaw):Bool:=
 namesMeet l.prog l.footing (fun sc n=>(!(["type","isinstance","issubclass","getattr","hasattr"]:List Str).contains n||sc.names.lookup n==some .globalImplicit)&&
  (l.may !=some n||sc.kind== .module||sc.names.lookup n==some .globalImplicit))&&
 l.own.contains l.name&&l.own.eraseDups.length==l.own.length&&l.own.all (fun n=> !builtinNamed n)&&
 namesMeet l.prog l.above (fun _ n=> !l.own.contains n)&&namesMeet l.prog l.footing fun sc n=>sc.kind== .module||sc.names.lookup n !=some .globalExplicit
theorem sM: @lQ= @lQ:=rfl
theorem sN: @lR= @lR:=rfl
theorem sP: @lS= @lS:=rfl
theorem sQ: @lT= @lT:=rfl
theorem uQ{l:OpenLaw}(h1:lQ l=true)(h2:lR l=true)(h3:lS l=true)(h4:lT l=true):l.wellSaid=true:=by
 unfold OpenLaw.wellSaid
 unfold lQ at h1
 unfold lR at h2
 unfold lS at h3
 unfold lT at h4
 simp only[Bool.and_eq_true]at h2 h3 h4⊢
 obtain⟨⟨⟨⟨⟨⟨⟨a1,a2⟩,a3⟩,a4⟩,a5⟩,a6⟩,a7⟩,a8⟩:=h2
 obtain⟨⟨⟨b1,b2⟩,b3⟩,b4⟩:=h3
 obtain⟨⟨⟨⟨⟨c1,c2⟩,c3⟩,c4⟩,c5⟩,c6⟩:=h4
 exact⟨⟨⟨⟨⟨⟨⟨⟨⟨⟨⟨⟨⟨⟨⟨⟨⟨⟨h1,a1⟩,a2⟩,a3⟩,a4⟩,a5⟩,a6⟩,a7⟩,a8⟩,b1⟩,b2⟩,b3⟩,b4⟩,c1⟩,c2⟩,c3⟩,c4⟩,c5⟩,c6⟩
end Mine.Internal
name_quick mineRunA for Mine.Internal.sI by Mine.Internal.uP
name_quick mineRunB for Mine.Internal.sJ by Mine.Internal.uO
name_quick mineSaid1 for Mine.Internal.lQ by Mine.Internal.sM
name_quick mineSaid2 for Mine.Internal.lR by Mine.Internal.sN
name_quick mineSaid3 for Mine.Internal.lS by Mine.Internal.sP
name_quick mineSaid4 for Mine.Internal.lT by Mine.Internal.sQ
open PySem PySem.W PySem.Calls PyProof.Rows
namespace Mine.Internal
noncomputable abbrev pv:Program:=PySem.Challenge.pw_on0350_01
noncomputable def qv:Program:={pv with main:={pv.main with body:=pv.main.body.drop 101}}
noncomputable def gU:List Str:=(pv.main.body.take 101).flatMap bindsAtTop
noncomputable def F9 (s:Shared):Bool:=xlAt qv [] s&&recOk (RowW.records PySem.Challenge.rw_on0350_01.row.toRowW) s
theorem GL(w:World)(os:OsState):sI yg pv qv gU F9 (boot_heap w.params) boot_drawn boot_toks 9000 w os=rA qv gU:=by
 have:PySem.W.Fast.mineRunA yg pv qv gU F9 (boot_heap w.params) boot_drawn boot_toks 9000 w os=rA qv gU:=by kernel_rfl
 rw[←PySem.W.Fast.mineRunA_eq]at this
 exact this
theorem GN(w:World)(os:OsState):sJ yh pv (boot_heap w.params) boot_drawn boot_toks 9000 w os=some true:=by
 have:PySem.W.Fast.mineRunB yh pv (boot_heap w.params) boot_drawn boot_toks 9000 w os=some true:=by kernel_rfl
 rw[←PySem.W.Fast.mineRunB_eq]at this
 exact this
theorem DG:lQ PySem.Challenge.rw_on0350_01=true:=by
 have:PySem.W.Fast.mineSaid1 PySem.Challenge.rw_on0350_01=true:=by kernel_rfl
 rw[←PySem.W.Fast.mineSaid1_eq]at this
 exact this
theorem DH:lR PySem.Challenge.rw_on0350_01=true:=by
 have:PySem.W.Fast.mineSaid2 PySem.Challenge.rw_on0350_01=true:=by kernel_rfl
 rw[←PySem.W.Fast.mineSaid2_eq]at this
 exact this
theorem DI:lS PySem.Challenge.rw_on0350_01=true:=by
 have:PySem.W.Fast.mineSaid3 PySem.Challenge.rw_on0350_01=true:=by kernel_rfl
 rw[←PySem.W.Fast.mineSaid3_eq]at this
 exact this
theorem DJ:lT PySem.Challenge.rw_on0350_01=true:=by
 have:PySem.W.Fast.mineSaid4 PySem.Challenge.rw_on0350_01=true:=by kernel_rfl
 rw[←PySem.W.Fast.mineSaid4_eq]at this
 exact this
theorem DK:PySem.Challenge.rw_on0350_01.wellSaid=true:=uQ DG DH DI DJ
end Mine.Internal
end
section
namespace Mine.Internal
open PySem
@[irreducible] noncomputable def pw:Program:=PySem.Challenge.pw_on0350_01
end Mine.Internal
end
section
namespace Mine.Internal
section
variable{a b c d i j k n x y:Nat}{X Y:Int}
theorem i6 (h:i<n+1)(q: ¬i=n):i<n:=Nat.lt_of_le_of_ne (Nat.le_of_lt_succ h) q
theorem gV(h:a≤1000000):a≤16777216:=Nat.le_trans h (by decide)
theorem oj(h:a≤1000):a≤16777216:=Nat.le_trans h (by decide)
theorem Il: ¬(a:Int)<0:=Int.not_lt.mpr (Int.natCast_nonneg a)
theorem Br(h:a≤1000000):(a:Int)<2 ^ 63:=Int.lt_of_le_of_lt (Int.ofNat_le.mpr h) (by decide)
theorem DL: -2 ^ 62≤(a:Int):=Int.le_trans (by decide) (Int.natCast_nonneg a)
theorem DM(h:a≤256):(a:Int)<2 ^ 62:=Int.lt_of_le_of_lt (Int.ofNat_le.mpr h) (by decide)
theorem DN(h:X.natAbs<2 ^ 40): -2 ^ 62≤X:=by omega
theorem DO(h:X.natAbs<2 ^ 40):X<2 ^ 62:=by omega
theorem DP(h:X.natAbs<2 ^ 64): -2 ^ 64<X:=by omega
theorem DQ(h:X.natAbs<2 ^ 64):X<2 ^ 64:=by omega
theorem mX(h:a+b+c<d):a<d:=Nat.lt_of_le_of_lt (Nat.le_trans (Nat.le_add_right a b) (Nat.le_add_right _ c)) h
theorem GO(h:a+b+k<c)(q:Nat.ble j k=true):a+j<c:=Nat.lt_of_le_of_lt (Nat.le_trans (Nat.add_le_add_right (Nat.le_add_right a b) j) (Nat.add_le_add_left (Nat.le_of_ble_eq_true q) _)) h
theorem Aa(h:X.natAbs<1000000):X<2 ^ 63:=by omega
theorem uR(h:X.natAbs<1000000): -2 ^ 63≤X:=by omega
theorem DR:X+(i:Int)+1=X+((i+1:Nat):Int):=Int.add_assoc ..
theorem DS:X - (i:Int) - 1=X - ((i+1:Nat):Int):=Int.sub_sub ..
theorem GP(h:a+2*(n+1)+2<c):a+1+2*n+3<c:=by omega
theorem GQ(h:a+8*(n+1)+150<c):a+3+8*n+155<c:=by omega
theorem GR(h:a+8*n+155<c):a+1+8*n+150<c:=by omega
theorem GS(h:a+2*n+3<c):a+1+2*n+2<c:=by omega
theorem HW(h:a≤b)(h':b+c≤100):a≤16777216:=Nat.le_trans h (Nat.le_trans (Nat.le_add_right b c) (Nat.le_trans h' (by decide)))
theorem yi(h:a+(b+1)≤c):a+1+b≤c:=by rw[Nat.add_right_comm];exact h
theorem HX(h:a≤c):0+a≤c:=(Nat.zero_add a).symm▸h
theorem GU(h:X+(i:Int)<Y):(i:Int)<if X<Y then Y - X else 0:=by split<;>omega
theorem DT(h: ¬X+(i:Int)<Y):(if X<Y then Y - X else 0)≤(i:Int):=by split<;>omega
theorem DU(h:0≤X+Y): -Y≤X:=by omega
theorem DV(h:X<0):X+Y<Y:=by omega
end
end Mine.Internal
namespace Mine.Internal.Q
section
variable{a b c d e k n p q t x y z W:Nat}{N R X Y:Int}
theorem mY(h:a=b):(a:Int)=b:=h▸rfl
theorem rB(h: ¬a=b): ¬(a:Int)=b:=fun e=>h (Int.ofNat.inj e)
theorem jw(h:q≤t):((t - q:Nat):Int)=(t:Int) - q:=Int.ofNat_sub h
theorem qh(h:q≤t):(t:Int) - N - (q - N)=((t - q:Nat):Int):=by rw[jw h,Int.sub_sub,Int.add_comm,Int.sub_add_cancel]
theorem Bt(h:q<t):0<(t:Int) - N - (q - N):=by rw[qh (Nat.le_of_lt h)];exact Int.ofNat_lt.mpr (Nat.sub_pos_of_lt h)
theorem rC(h:t<z):(t:Int) - N<z - N:=Int.sub_lt_sub_right (Int.ofNat_lt.mpr h) N
theorem uS(h:t≤z):(t:Int) - N≤z - N:=Int.sub_le_sub_right (Int.ofNat_le.mpr h) N
theorem qk(h:z≤t): ¬(t:Int) - N<z - N:=Int.not_lt.mpr (uS h)
theorem kh(h:z<t): ¬(t:Int) - N≤z - N:=Int.not_le.mpr (rC h)
theorem DW(h:a≤b):0 - ((a:Int) - b)=((b - a:Nat):Int):=by rw[jw h,Int.zero_sub,Int.neg_sub]
theorem Ab(h:a<b):(a:Int) - b<0:=Int.sub_neg_of_lt (Int.ofNat_lt.mpr h)
theorem uT(h:b≤a): ¬(a:Int) - b<0:=Int.not_lt.mpr (Int.sub_nonneg_of_le (Int.ofNat_le.mpr h))
theorem Im(h:a≤127):(a:Int) - b<128:=Int.lt_of_le_of_lt (Int.sub_le_self _ (Int.natCast_nonneg b)) (Int.ofNat_lt.mpr (Nat.lt_succ_of_le h))
theorem fT(h:a≤100):(a:Int) - b<128:=Im (Nat.le_trans h (by decide))
theorem uU(h:a≤b):(a:Int) - b<128:=Int.lt_of_le_of_lt (Int.sub_nonpos_of_le (Int.ofNat_le.mpr h)) (by decide)
theorem DX(h:a<b+100):(a:Int) - b<128:=Int.lt_trans (Int.sub_left_lt_of_lt_add (Int.ofNat_lt.mpr h)) (by decide:(100:Int)<128)
theorem Io(h:a≤b+2):(a:Int) - b<128:=DX (Nat.lt_of_le_of_lt h (Nat.add_lt_add_left (by decide) b))
theorem GV(h:a≤b)(h':(b:Int) - X<128):(a:Int) - X<128:=Int.lt_of_le_of_lt (Int.sub_le_sub_right (Int.ofNat_le.mpr h) X) h'
theorem HY(h:a≤1000):a≤1000000:=Nat.le_trans h (by decide)
theorem DY(h:a≤1000)(h':b≤1000):a+(b - c)≤1000000:=Nat.le_trans (Nat.add_le_add h (Nat.le_trans (Nat.sub_le b c) h')) (by decide)
theorem uV(h:a≤b):(a:Int)+((b - a:Nat):Int)=b:=by rw[jw h,Int.add_comm,Int.sub_add_cancel]
theorem rD(h:a+b=c):(a:Int)+b=c:=h▸(Int.natCast_add a b).symm
theorem Bu(h: ¬a+b=c): ¬(a:Int)+b=c:=fun e=>h (Int.ofNat.inj ((Int.natCast_add a b).trans e))
theorem Bv(h:p≤e):(p:Int) - N+((e - p:Nat):Int)=e - N:=by rw[jw h,Int.add_comm,←Int.add_sub_assoc,Int.sub_add_cancel]
theorem DZ(h:a≠b): ¬(a:Int) - N=b - N:=fun e=>h (Int.ofNat.inj (by have:=congrArg (· +N) e;simp only[Int.sub_add_cancel]at this;exact this))
theorem Bw:N+(X - N)=X:=by rw[Int.add_comm,Int.sub_add_cancel]
theorem Bx:X - Y=0 - (Y - X):=by rw[Int.zero_sub,Int.neg_sub]
theorem om(h:256≤R):R≠0:=fun e=>by subst e;exact absurd h (by decide)
theorem uW(h:256≤R):0<R:=Int.lt_of_lt_of_le (by decide) h
theorem Ac(h:a≤1000):(a:Int).natAbs<2 ^ 40:=Nat.lt_of_le_of_lt h (by decide)
theorem uX(h:a≤1000)(h':b≤1000):((a:Int)+b).natAbs<2 ^ 40:=Nat.lt_of_le_of_lt (Nat.add_le_add h h') (by decide)
theorem Ip(h: ¬0<k):k=0:=Nat.le_zero.mp (Nat.not_lt.mp h)
theorem D0 (h:a≤b)(h':b≤c):b - a+(c - b)=c - a:=by rw[Nat.add_comm,←Nat.add_sub_assoc h,Nat.sub_add_cancel h']
theorem D4 (h:a≤b):(b:Int)+(16 - ((b - a:Nat):Int))=a+16:=by rw[jw h,Int.sub_eq_add_neg,Int.neg_sub,Int.add_left_comm,←Int.add_sub_assoc,Int.add_comm (b:Int),Int.add_sub_cancel,Int.add_comm]
theorem GW(h:a≤b):(b:Int)+1+(16 - ((b - a:Nat):Int))=a+16+1:=by rw[Int.add_right_comm,D4 h]
theorem uY(h:X≤Y):X - Y<128:=Int.lt_of_le_of_lt (Int.sub_nonpos_of_le h) (by decide)
theorem yj(h:X≤67)(h':0≤Y):X - Y<128:=Int.lt_of_le_of_lt (Int.sub_le_self X h') (Int.lt_of_le_of_lt h (by decide))
theorem rE:p+(n+1)=p+1+n:=Nat.add_right_comm p n 1
theorem mZ:0<((k+1:Nat):Int):=Int.ofNat_lt.mpr (Nat.succ_pos k)
theorem uZ: -1+((k+1:Nat):Int)=k:=Int.neg_add_cancel_left (a:=1) (b:=k)▸congrArg (-1+ ·) (Int.add_comm (k:Int) 1)
theorem yk:0≤ -1+((k+1:Nat):Int):=by rw[uZ];exact Int.natCast_nonneg k
theorem By(h:a+k≤c)(h': ¬a<c):k=0:=Nat.eq_zero_of_le_zero (Nat.le_of_add_le_add_left (Nat.le_trans h (Nat.not_lt.mp h')))
theorem D5 (h':b≤c)(h:a≤b):a≤c:=Nat.le_trans h h'
theorem D6 (h:q≤n+2)(h1:n<p)(h2:p<e):q≤e:=Nat.le_trans h (Nat.le_trans (Nat.succ_le_succ h1) h2)
theorem u1 (h:0<n):(0:Int)<n:=Int.ofNat_lt.mpr h
theorem yl(h: ¬0<n): ¬(0:Int)<n:=fun e=>h (Int.ofNat_lt.mp e)
theorem GX(h:0<k): ¬(k:Int)=0:=fun e=>absurd (Int.ofNat.inj e) (Nat.ne_of_gt h)
theorem Ad:(0:Int)<(k:Int)+1:=mZ
theorem GY: ¬(k:Int)+1=0:=Int.ne_of_gt Ad
theorem GZ{i:Nat}:((p+1:Nat):Int)+i=(p:Int)+((i+1:Nat):Int):=by rw[Int.natCast_add,Int.natCast_add,Int.add_assoc,Int.add_comm ((1:Nat):Int)]
theorem ym(h:a+b<1000):a.succ≤1000000:=Nat.le_trans (Nat.succ_le_of_lt (Nat.lt_of_le_of_lt (Nat.le_add_right a b) h)) (by decide)
theorem yn(h:x<y):X+(x:Int)<X+y:=Int.add_lt_add_left (Int.ofNat_lt.mpr h) X
theorem u2 (h: ¬x<y): ¬X+(x:Int)<X+y:=Int.not_lt.mpr (Int.add_le_add_left (Int.ofNat_le.mpr (Nat.not_lt.mp h)) X)
theorem yo(h:a+b=c)(h':n≤c):(n:Int)≤a+b:=by rw[rD h];exact Int.ofNat_le.mpr h'
theorem Ae(h:n<k):k=k - 1+1:=(Nat.sub_add_cancel (Nat.lt_of_le_of_lt (Nat.zero_le n) h)).symm
theorem Bz(h:X<Y): ¬Y - X=0:=Int.ne_of_gt (Int.sub_pos_of_lt h)
theorem BA:X - ((n:Int)+0)=X - n:=congrArg (X - ·) (Int.add_zero _)
theorem D7 (h:x<y): ¬(y:Int)<x:=Int.not_lt.mpr (Int.ofNat_le.mpr (Nat.le_of_lt h))
theorem D8 (h:a+k≤c)(h':c≤50):k≤100:=Nat.le_trans (Nat.le_add_left k a) (Nat.le_trans h (Nat.le_trans h' (by decide)))
theorem D9 (h:a+k≤c)(h':c≤50):a≤100:=Nat.le_trans (Nat.le_add_right a k) (Nat.le_trans h (Nat.le_trans h' (by decide)))
theorem G1 (h:a≤150)(h':b≤k)(hk:k≤100):a+b≤1000000:=Nat.le_trans (Nat.add_le_add h (Nat.le_trans h' hk)) (by decide)
theorem G2 (h:a≤10)(h':b≤10):a+1+b≤1000000:=Nat.le_trans (Nat.add_le_add (Nat.succ_le_succ h) h') (by decide)
theorem BB(h:a≤100):(a:Int).natAbs<2 ^ 40:=Ac (Nat.le_trans h (by decide))
theorem yp(h:a≤100)(h':b≤100):((a:Int)+b).natAbs<2 ^ 40:=uX (Nat.le_trans h (by decide)) (Nat.le_trans h' (by decide))
theorem yq(h:b≤n):x<n∨(n≤x∧x<z)↔x<n∨(b≤x∧x<z):=⟨.imp_right fun k=>⟨Nat.le_trans h k.1,k.2⟩,fun k=>(Nat.lt_or_ge x n).imp_right fun q=>⟨q,k.elim (fun r=>absurd r (Nat.not_lt.mpr q)) And.right⟩⟩
theorem BC(h:z≤n):x<n∨(n≤x∧x<n)↔x<n∨(b≤x∧x<z):=⟨fun k=> .inl (k.elim id And.right),fun k=> .inl (k.elim id fun r=>Nat.lt_of_lt_of_le r.2 h)⟩
theorem u3:x=p∨p+1≤x∧x<p+1+n↔p≤x∧x<p+(n+1):=by
 rw[rE (p:=p) (n:=n)]
 exact⟨fun h=>h.elim (fun e=>e▸⟨Nat.le_refl x,Nat.lt_of_lt_of_le (Nat.lt_succ_self x) (Nat.le_add_right _ n)⟩) fun k=>⟨Nat.le_of_succ_le k.1,k.2⟩,fun k=>(Nat.eq_or_lt_of_le k.1).imp Eq.symm (⟨·,k.2⟩)⟩
end
end Mine.Internal.Q
end
section
namespace Mine.Internal
open PySem PySem.Spec PySem.Calls PyProof.Rows PySem.W
noncomputable abbrev Led:=List (Addr×Obj)
noncomputable abbrev eR (Vs:List Value)(k:Nat):Obj:={cls:= .type "tuple",data:= .seq Vs.toArray k}
noncomputable abbrev fE (a b c:Int)(t u v:Tok):Obj:={cls:= .type "range",dict:=none,data:= .fields #[.int a t,.int b u,.int c v],slots:= #[]}
noncomputable def cK(ρ:Nat→Addr)(N:Nat)(a:Addr):Prop:= ∀i,i<N→ρ i≠a
mutual
inductive aY(base:Heap)(ρ:Nat→Addr)(N:Nat)(news:Led):MV→Value→Prop
 |none:aY base ρ N news .none .none
 |bool (b:Bool):aY base ρ N news (.bool b) (.bool b)
 |int (i:Int)(t:Tok):aY base ρ N news (.int i) (.int i t)
 |str (k:Nat)(t:Tok):k<223→aY base ρ N news (.str k) (.str (nm k) t)
 |bytes (b:List UInt8)(t:Tok):aY base ρ N news (.bytes b) (.bytes b.toArray t)
 |ref (n:Nat):n<N→aY base ρ N news (.ref n) (.ref (ρ n))
 |tup {a:Addr}{vs:List MV}{Vs:List Value}{k:Nat}:(a,eR Vs k)∈news→cK ρ N a→br base ρ N news vs Vs→aY base ρ N news (.tup vs) (.ref a)
 |rng {r:Addr}{a b:Int}{t u v:Tok}:(r,fE a b 1 t u v)∈news→cK ρ N r→aY base ρ N news (.rng a b) (.ref r)
 |frz {a:Addr}{vs:List MV}{Vs:List Value}:base.IsList a Vs.toArray→br base ρ N news vs Vs→aY base ρ N news (.frz vs) (.ref a)
 |fn (f:Nat):aY base ρ N news (.fn f) (.ref f)
 |cls (c:Nat):aY base ρ N news (.cls c) (.ref c)
inductive br(base:Heap)(ρ:Nat→Addr)(N:Nat)(news:Led):List MV→List Value→Prop
 |nil:br base ρ N news [] []
 |cons {v:MV}{V:Value}{vs:List MV}{Vs:List Value}:aY base ρ N news v V→br base ρ N news vs Vs→br base ρ N news (v::vs) (V::Vs)
end
inductive fj(base:Heap)(ρ:Nat→Addr)(N:Nat)(news:Led):List (Nat×MV)→List DictEntry→Prop
 |nil:fj base ρ N news [] []
 |cons {k:Nat}{v:MV}{hsh:Int}{t:Tok}{V:Value} {fs es}:k<223→aY base ρ N news v V→fj base ρ N news fs es→fj base ρ N news ((k,v)::fs) (⟨hsh,.str (nm k) t,V⟩::es)
inductive cP{α β:Type}(key:α→β)(base:Heap)(ρ:Nat→Addr)(N:Nat)(news:Led):List (α×MV)→List (β×Value)→Prop
 |nil:cP key base ρ N news [] []
 |cons {k:α}{v:MV}{V:Value} {fs es}:aY base ρ N news v V→cP key base ρ N news fs es→cP key base ρ N news ((k,v)::fs) ((key k,V)::es)
section
variable(pw:Program)(w:World)
inductive iy(base:Heap)(ρ:Nat→Addr)(N:Nat)(news:Led):MO→Obj→Prop
 |inst (c d:Nat):d<N→(dC dW c).isSome=true→iy base ρ N news (.inst c d) (instObj c (ρ d))
 |attrs {fs es}(n:Nat):fj base ρ N news fs es→iy base ρ N news (.attrs fs) (dictOf es n)
 |list {xs Vs}(n:Nat):br base ρ N news xs Vs→iy base ρ N news (.list xs) (listOf Vs.toArray n)
 |dictS {es ob}{kvs:List (Str×Value)}:ob.IsDictOf (strKind pw w) kvs→(∀p∈es,p.1<223)→cP nm base ρ N news es kvs→iy base ρ N news (.dictS es) ob
 |dictI {es ob}{kvs:List (Int×Value)}:ob.IsDictOf (intKind pw w) kvs→cP id base ρ N news es kvs→iy base ρ N news (.dictI es) ob
 |barr (b:List UInt8):iy base ρ N news (.barr b) {cls:= .type "bytearray",data:= .bytearray b.toArray 0}
end
structure Ext(ρ:Nat→Addr)(N:Nat)(news:Led)(ρ':Nat→Addr)(N':Nat)(news':Led):Prop where
 le:N≤N'
 same: ∀i,i<N→ρ' i=ρ i
 keep: ∀p∈news,cK ρ N p.1→p∈news'∧cK ρ' N' p.1
structure ki(ρ:Nat→Addr)(N:Nat)(news:Led)(ρ':Nat→Addr)(N':Nat)(news':Led):Prop where
 le:N≤N'
 same: ∀i,i<N→ρ' i=ρ i
 keepT: ∀(a:Addr)(Vs:List Value)(k:Nat),(a,eR Vs k)∈news→cK ρ N a→(a,eR Vs k)∈news'∧cK ρ' N' a
 keepR: ∀(r:Addr)(a b c:Int)(t u v:Tok),(r,fE a b c t u v)∈news→cK ρ N r→(r,fE a b c t u v)∈news'∧cK ρ' N' r
section
variable{base:Heap}{ρ ρ' ρ'':Nat→Addr}{N N' N'':Nat}{news news' news'':Led}{w:World}
theorem Ext.refl:Ext ρ N news ρ N news:=⟨Nat.le_refl _,fun _ _=>rfl,fun _ hp hf=>⟨hp,hf⟩⟩
theorem Ext.trans (x:Ext ρ N news ρ' N' news')(y:Ext ρ' N' news' ρ'' N'' news''):Ext ρ N news ρ'' N'' news'':=
 ⟨Nat.le_trans x.le y.le,fun i hi=>(y.same i (Nat.lt_of_lt_of_le hi x.le)).trans (x.same i hi),fun p hp hf=>let ⟨a,b⟩:=x.keep p hp hf;y.keep p a b⟩
theorem ki.vs (x:ki ρ N news ρ' N' news'):(∀{v:MV}{V:Value},aY base ρ N news v V→aY base ρ' N' news' v V)∧ ∀{vs:List MV}{Vs:List Value},br base ρ N news vs Vs→br base ρ' N' news' vs Vs:=by
 have key:= @aY.rec base ρ N news (fun v V _=>aY base ρ' N' news' v V) (fun vs Vs _=>br base ρ' N' news' vs Vs) .none .bool .int .str .bytes (fun n h=>x.same n h▸ .ref n (Nat.lt_of_lt_of_le h x.le))
  (fun h f _ r=> .tup (x.keepT _ _ _ h f).1 (x.keepT _ _ _ h f).2 r) (fun h f=> .rng (x.keepR _ _ _ _ _ _ _ h f).1 (x.keepR _ _ _ _ _ _ _ h f).2) (fun h _ r=> .frz h r) .fn .cls .nil (fun _ _ h r=> .cons h r)
 have key':= @br.rec base ρ N news (fun v V _=>aY base ρ' N' news' v V) (fun vs Vs _=>br base ρ' N' news' vs Vs) .none .bool .int .str .bytes (fun n h=>x.same n h▸ .ref n (Nat.lt_of_lt_of_le h x.le))
  (fun h f _ r=> .tup (x.keepT _ _ _ h f).1 (x.keepT _ _ _ h f).2 r) (fun h f=> .rng (x.keepR _ _ _ _ _ _ _ h f).1 (x.keepR _ _ _ _ _ _ _ h f).2) (fun h _ r=> .frz h r) .fn .cls .nil (fun _ _ h r=> .cons h r)
 exact⟨fun h=>key h,fun h=>key' h⟩
theorem aY.mono0 (x:ki ρ N news ρ' N' news'){v:MV}{V:Value}(h:aY base ρ N news v V):aY base ρ' N' news' v V:=x.vs.1 h
theorem br.mono0 (x:ki ρ N news ρ' N' news'){vs:List MV}{Vs:List Value}(h:br base ρ N news vs Vs):br base ρ' N' news' vs Vs:=x.vs.2 h
theorem fj.mono0 (x:ki ρ N news ρ' N' news'){fs:List (Nat×MV)}{es:List DictEntry}(h:fj base ρ N news fs es):fj base ρ' N' news' fs es:=
 fj.rec (motive:=fun fs es _=>fj base ρ' N' news' fs es) .nil (fun k h _ r=> .cons k (h.mono0 x) r) h
theorem cP.mono0 {α β:Type}{key:α→β}(x:ki ρ N news ρ' N' news'){fs:List (α×MV)}{es:List (β×Value)}(h:cP key base ρ N news fs es):cP key base ρ' N' news' fs es:=
 cP.rec (motive:=fun fs es _=>cP key base ρ' N' news' fs es) .nil (fun h _ r=> .cons (h.mono0 x) r) h
theorem iy.mono0 (x:ki ρ N news ρ' N' news'){o:MO}{ob:Obj}(h:iy pw w base ρ N news o ob):iy pw w base ρ' N' news' o ob:=
 iy.rec (motive:=fun o ob _=>iy pw w base ρ' N' news' o ob) (fun c d h q=>x.same d h▸ .inst c d (Nat.lt_of_lt_of_le h x.le) q) (fun n r=> .attrs n (r.mono0 x)) (fun n r=> .list n (r.mono0 x))
  (fun h b r=> .dictS h b (r.mono0 x)) (fun h r=> .dictI h (r.mono0 x)) .barr h
theorem Ext.to0 (x:Ext ρ N news ρ' N' news'):ki ρ N news ρ' N' news':=⟨x.le,x.same,fun _ _ _ h f=>x.keep _ h f,fun _ _ _ _ _ _ _ h f=>x.keep _ h f⟩
theorem aY.mono (x:Ext ρ N news ρ' N' news'){v:MV}{V:Value}(h:aY base ρ N news v V):aY base ρ' N' news' v V:=h.mono0 x.to0
theorem br.mono (x:Ext ρ N news ρ' N' news'){v:List MV}{V:List Value}(h:br base ρ N news v V):br base ρ' N' news' v V:=h.mono0 x.to0
theorem iy.mono (x:Ext ρ N news ρ' N' news'){o:MO}{ob:Obj}(h:iy pw w base ρ N news o ob):iy pw w base ρ' N' news' o ob:=h.mono0 x.to0
theorem br.length {vs:List MV}{Vs:List Value}(h:br base ρ N news vs Vs):Vs.length=vs.length:=by
 induction vs generalizing Vs with
 |nil=>cases h;rfl
 |cons v vs ih=>cases h with|cons _ r=>rw[List.length_cons,List.length_cons,ih r]
theorem br.get {vs:List MV}{Vs:List Value}(h:br base ρ N news vs Vs){i:Nat}{v:MV}(e:vs[i]? =some v): ∃V,Vs[i]? =some V∧aY base ρ N news v V:=by
 induction vs generalizing Vs i with
 |nil=>simp at e
 |cons x vs ih=>
  cases h with
  |cons h r=>
   cases i with
   |zero=>simp at e;subst e;exact⟨_,rfl,h⟩
   |succ i=>simp at e;exact ih r e
theorem br.append {vs ws:List MV}{Vs Ws:List Value}(h:br base ρ N news vs Vs)(g:br base ρ N news ws Ws):br base ρ N news (vs++ws) (Vs++Ws):=by
 induction vs generalizing Vs with
 |nil=>cases h;exact g
 |cons x vs ih=>cases h with|cons h r=>exact .cons h (ih r)
theorem br.set {vs:List MV}{Vs:List Value}(h:br base ρ N news vs Vs)(i:Nat){v:MV}{V:Value}(g:aY base ρ N news v V):br base ρ N news (vs.set i v) (Vs.set i V):=by
 induction vs generalizing Vs i with
 |nil=>cases h;exact .nil
 |cons x vs ih=>
  cases h with
  |cons h r=>
   cases i with
   |zero=>exact .cons g r
   |succ i=>exact .cons h (ih r i)
end
noncomputable def cW(news:Led)(a:Addr)(o:Obj):Led:=news.map fun p=>if p.1=a then(a,o)else p
theorem gA(news:Led)(a:Addr)(o:Obj):(cW news a o).map (·.1)=news.map (·.1):=by
 unfold cW
 rw[List.map_map]
 refine List.map_congr_left fun p _=> ?_
 by_cases h:p.1=a<;>simp[h]
theorem cD{news:Led}{a:Addr}{o ob:Obj}(h:(a,ob)∈news):(a,o)∈cW news a o:=
 List.mem_map.mpr ⟨(a,ob),h,by simp⟩
theorem bC{news:Led}{a:Addr}{o:Obj}{p:Addr×Obj}(h:p∈news)(hn:p.1≠a):p∈cW news a o:=
 List.mem_map.mpr ⟨p,h,by simp[hn]⟩
theorem gc{news:Led}{a:Addr}{o:Obj}{p:Addr×Obj}(h:p∈cW news a o):p=(a,o)∨(p∈news∧p.1≠a):=by
 obtain⟨q,hq,e⟩:=List.mem_map.mp h
 by_cases c:q.1=a
 ·rw[if_pos c]at e;exact .inl e.symm
 ·rw[if_neg c]at e;subst e;exact .inr ⟨hq,c⟩
theorem gf{news:Led}(nd:(news.map (·.1)).Nodup){p q:Addr×Obj}(hp:p∈news)(hq:q∈news)(e:p.1=q.1):p=q:=X.key_unique nd hp hq e
structure Rel(pw:Program)(w:World)(base h₀:Heap)(L:Addr)(h:Heap)(m:Str→Option Value)(news:Led)(ρ:Nat→Addr)(H:HH):Prop where
 F:Fr h₀ L h m
 N:News h₀ L h news
 nd:(news.map (·.1)).Nodup
 inj: ∀i j,i<H.length→j<H.length→ρ i=ρ j→i=j
 cell: ∀i o,H[i]? =some o→ ∃ob,(ρ i,ob)∈news∧iy pw w base ρ H.length news o ob
section
variable{w:World}{base h₀ h h':Heap}{L:Addr}{m:Str→Option Value}{news:Led}{ρ:Nat→Addr}{H:HH}
theorem Rel.at (R:Rel pw w base h₀ L h m news ρ H){i:Nat}{o:MO}(e:H[i]? =some o): ∃ob,bx ((ρ i,ob)∈news) (h.get? (ρ i)=some ob) (iy pw w base ρ H.length news o ob):=
 let ⟨ob,a,b⟩:=R.cell i o e
 ⟨ob,a,(R.N _ a).1,b⟩
theorem cE{α:Type}{l:List α}{i:Nat}{a:α}(h:l[i]? =some a):i<l.length:=(List.getElem?_eq_some_iff.mp h).1
theorem Rel.heap (R:Rel pw w base h₀ L h m news ρ H){m':Str→Option Value}(F':Fr h₀ L h' m')(N':News h₀ L h' news):Rel pw w base h₀ L h' m' news ρ H:=⟨F',N',R.nd,R.inj,R.cell⟩
theorem Rel.keeps (R:Rel pw w base h₀ L h m news ρ H)(k: ∀b o,h.get? b=some o→h'.get? b=some o):Rel pw w base h₀ L h' m news ρ H:=
 R.heap (R.F.keeps k) (R.N.grown k)
theorem d7 (N:News h₀ L h news):h.objs.size∉news.map (·.1):=fun hm=>by
 obtain⟨p,hp,e⟩:=List.mem_map.mp hm
 have:=Heap.lt_size (N p hp).1
 rw[e]at this
 exact Nat.lt_irrefl _ this
theorem Rel.loose (R:Rel pw w base h₀ L h m news ρ H){a:Addr}{o:Obj}(F':Fr h₀ L h' m)(N':News h₀ L h' ((a,o)::news))(hf:a∉news.map (·.1)):
  Rel pw w base h₀ L h' m ((a,o)::news) ρ H∧Ext ρ H.length news ρ H.length ((a,o)::news)∧cK ρ H.length a:=by
 have x:Ext ρ H.length news ρ H.length ((a,o)::news):=⟨Nat.le_refl _,fun _ _=>rfl,fun p hp f=>⟨.tail _ hp,f⟩⟩
 have own: ∀i,i<H.length→ ∃ob,(ρ i,ob)∈news:=fun i hi=>by
  obtain⟨ob,hm,_⟩:=R.cell i _ (List.getElem?_eq_getElem hi)
  exact⟨ob,hm⟩
 refine⟨⟨F',N',List.nodup_cons.mpr ⟨hf,R.nd⟩,R.inj,fun i o' e=> ?_⟩,x,fun i hi e=> ?_⟩
 ·obtain⟨ob,hm,ho⟩:=R.cell i o' e
  exact⟨ob,.tail _ hm,ho.mono x⟩
 ·obtain⟨ob,hm⟩:=own i hi
  exact hf (List.mem_map.mpr ⟨_,hm,e⟩)
noncomputable def upd(ρ:Nat→Addr)(n:Nat)(a:Addr):Nat→Addr:=fun i=>if i=n then a else ρ i
theorem bV(ρ:Nat→Addr)(n:Nat)(a:Addr):upd ρ n a n=a:=by simp[upd]
theorem dq{n i:Nat}{a:Addr}(h:i<n):upd ρ n a i=ρ i:=by simp[upd,Nat.ne_of_lt h]
theorem Rel.alloc (R:Rel pw w base h₀ L h m news ρ H){a:Addr}{o:Obj}{c:MO}(F':Fr h₀ L h' m)(N':News h₀ L h' ((a,o)::news))(hf:a∉news.map (·.1))
  (ok:iy pw w base ρ H.length news c o):
  Rel pw w base h₀ L h' m ((a,o)::news) (upd ρ H.length a) (H++[c])∧Ext ρ H.length news (upd ρ H.length a) (H++[c]).length ((a,o)::news):=by
 have own: ∀i,i<H.length→ ∃ob,(ρ i,ob)∈news:=fun i hi=>by
  obtain⟨ob,hm,_⟩:=R.cell i _ (List.getElem?_eq_getElem hi)
  exact⟨ob,hm⟩
 have hl:(H++[c]).length=H.length+1:=by simp
 have x:Ext ρ H.length news (upd ρ H.length a) (H++[c]).length ((a,o)::news):=by
  refine⟨by rw[hl];exact Nat.le_succ _,fun i hi=>dq hi,fun p hp f=>⟨.tail _ hp,fun i hi e=> ?_⟩⟩
  rw[hl]at hi
  by_cases q:i=H.length
  ·subst q;rw[bV]at e;exact hf (List.mem_map.mpr ⟨p,hp,e.symm⟩)
  ·have hi':i<H.length:=i6 hi q
   rw[dq hi']at e;exact f i hi' e
 refine⟨⟨F',N',List.nodup_cons.mpr ⟨hf,R.nd⟩,fun i j hi hj e=> ?_,fun i o' e=> ?_⟩,x⟩
 ·rw[hl]at hi hj
  by_cases qi:i=H.length<;>by_cases qj:j=H.length
  ·exact qi.trans qj.symm
  ·have hj':j<H.length:=i6 hj qj
   subst qi;rw[bV,dq hj']at e
   obtain⟨ob,hm⟩:=own j hj'
   exact absurd (List.mem_map.mpr ⟨_,hm,e.symm⟩) hf
  ·have hi':i<H.length:=i6 hi qi
   subst qj;rw[bV,dq hi']at e
   obtain⟨ob,hm⟩:=own i hi'
   exact absurd (List.mem_map.mpr ⟨_,hm,e⟩) hf
  ·have hi':i<H.length:=i6 hi qi
   have hj':j<H.length:=i6 hj qj
   rw[dq hi',dq hj']at e
   exact R.inj i j hi' hj' e
 ·by_cases q:i=H.length
  ·subst q
   rw[List.getElem?_append_right (Nat.le_refl _),Nat.sub_self]at e
   simp at e;subst e
   rw[bV]
   exact⟨o,.head _,ok.mono x⟩
  ·have hi:=cE e
   rw[hl]at hi
   have hi':i<H.length:=i6 hi q
   rw[List.getElem?_append_left hi']at e
   obtain⟨ob,hm,ho⟩:=R.cell i o' e
   rw[dq hi']
   exact⟨ob,.tail _ hm,ho.mono x⟩
theorem Rel.write (R:Rel pw w base h₀ L h m news ρ H){n:Nat}{c c':MO}{o:Obj}(hc:H[n]? =some c)(hs:Heap.SameBut (ρ n) h h')(ho:h'.get? (ρ n)=some o)
  (ok:iy pw w base ρ H.length news c' o):
  Rel pw w base h₀ L h' m (cW news (ρ n) o) ρ (H.set n c')∧Ext ρ H.length news ρ (H.set n c').length (cW news (ρ n) o):=by
 obtain⟨ob,hm,_,_⟩:=R.at hc
 have hn:=cE hc
 have D:=R.N _ hm
 have hl:(H.set n c').length=H.length:=by simp
 have x:Ext ρ H.length news ρ (H.set n c').length (cW news (ρ n) o):=by
  rw[hl]
  exact⟨Nat.le_refl _,fun _ _=>rfl,fun p hp f=>⟨bC hp fun e=>f n hn e.symm,f⟩⟩
 refine⟨⟨R.F.change hs D.2.1 D.2.2,fun p hp=> ?_,by rw[gA];exact R.nd,fun i j hi hj=>R.inj i j (hl▸hi) (hl▸hj),fun i o' e=> ?_⟩,x⟩
 ·rcases gc hp with rfl|⟨hp,hne⟩
  ·exact⟨ho,D.2⟩
  ·exact⟨(hs.2 _ hne).trans (R.N p hp).1,(R.N p hp).2⟩
 ·by_cases q:i=n
  ·subst q
   rw[List.getElem?_set_self hn]at e
   cases e
   exact⟨o,cD hm,ok.mono x⟩
  ·rw[List.getElem?_set_ne (Ne.symm q)]at e
   obtain⟨ob',hm',ho'⟩:=R.cell i o' e
   exact⟨ob',bC hm' fun z=>q (R.inj i n (cE e) hn z),ho'.mono x⟩
theorem Rel.adopt (R:Rel pw w base h₀ L h m news ρ H){D:Addr}{ob o:Obj}{c:MO}(hm:(D,ob)∈news)(hf:cK ρ H.length D)(hT: ∀Vs k,ob≠eR Vs k)(hR: ∀a b c t u v,ob≠fE a b c t u v)
  (hs:Heap.SameBut D h h')(ho:h'.get? D=some o)(ok:iy pw w base ρ H.length news c o):
  Rel pw w base h₀ L h' m (cW news D o) (upd ρ H.length D) (H++[c])∧ki ρ H.length news (upd ρ H.length D) (H++[c]).length (cW news D o):=by
 have hl:(H++[c]).length=H.length+1:=by simp
 have free: ∀a,cK ρ H.length a→a≠D→cK (upd ρ H.length D) (H++[c]).length a:=fun a hfa hne i hi e=>by
  rw[hl]at hi
  by_cases q:i=H.length
  ·subst q;rw[bV]at e;exact hne e.symm
  ·have hi':i<H.length:=i6 hi q
   rw[dq hi']at e;exact hfa i hi' e
 have x:ki ρ H.length news (upd ρ H.length D) (H++[c]).length (cW news D o):=by
  refine⟨by rw[hl];exact Nat.le_succ _,fun i hi=>dq hi,fun a Vs k h1 h2=> ?_,fun r a b c t u v h1 h2=> ?_⟩
  ·have hne:a≠D:=fun e=>by
    subst e
    have:=gf R.nd hm h1 rfl
    exact hT _ _ (Prod.mk.inj this).2
   exact⟨bC h1 hne,free a h2 hne⟩
  ·have hne:r≠D:=fun e=>by
    subst e
    have:=gf R.nd hm h1 rfl
    exact hR _ _ _ _ _ _ (Prod.mk.inj this).2
   exact⟨bC h1 hne,free r h2 hne⟩
 have ND:=R.N _ hm
 refine⟨⟨R.F.change hs ND.2.1 ND.2.2,fun p hp=> ?_,by rw[gA];exact R.nd,fun i j hi hj e=> ?_,fun i o' e=> ?_⟩,x⟩
 ·rcases gc hp with rfl|⟨hp,hne⟩
  ·exact⟨ho,ND.2⟩
  ·exact⟨(hs.2 _ hne).trans (R.N p hp).1,(R.N p hp).2⟩
 ·rw[hl]at hi hj
  by_cases qi:i=H.length<;>by_cases qj:j=H.length
  ·exact qi.trans qj.symm
  ·have hj':j<H.length:=i6 hj qj
   subst qi;rw[bV,dq hj']at e
   exact absurd e.symm (hf j hj')
  ·have hi':i<H.length:=i6 hi qi
   subst qj;rw[bV,dq hi']at e
   exact absurd e (hf i hi')
  ·have hi':i<H.length:=i6 hi qi
   have hj':j<H.length:=i6 hj qj
   rw[dq hi',dq hj']at e
   exact R.inj i j hi' hj' e
 ·by_cases q:i=H.length
  ·subst q
   rw[List.getElem?_append_right (Nat.le_refl _),Nat.sub_self]at e
   simp at e;subst e
   rw[bV]
   exact⟨o,cD hm,ok.mono0 x⟩
  ·have hi:=cE e
   rw[hl]at hi
   have hi':i<H.length:=i6 hi q
   rw[List.getElem?_append_left hi']at e
   obtain⟨ob',hm',ho'⟩:=R.cell i o' e
   rw[dq hi']
   exact⟨ob',bC hm' (hf i hi'),ho'.mono0 x⟩
end
theorem aV{α:Type}{r:α}{P:Prop}(e:(none:Option α)=some r):P:=nomatch e
theorem bF{P:Prop}(e:false=true):P:=nomatch e
section
variable{base:Heap}{ρ:Nat→Addr}{N:Nat}{news:Led}{v:MV}{X:Value}
noncomputable def G3 (base:Heap)(ρ:Nat→Addr)(N:Nat)(news:Led)(v:MV)(X:Value):Prop:=match v with
 | .none=>X= .none
 | .bool b=>X= .bool b
 | .int i=> ∃t,X= .int i t
 | .str k=> ∃t,X= .str (nm k) t∧k<223
 | .bytes b=> ∃t,X= .bytes b.toArray t
 | .ref n=>X= .ref (ρ n)∧n<N
 | .tup vs=>iX fun a Vs k=>cC (X= .ref a) ((a,eR Vs k)∈news) (cK ρ N a) (br base ρ N news vs Vs)
 | .rng a b=>jM fun r t u v=>bx (X= .ref r) ((r,fE a b 1 t u v)∈news) (cK ρ N r)
 | .frz vs=>dk fun a Vs=>bx (X= .ref a) (base.IsList a Vs.toArray) (br base ρ N news vs Vs)
 | .fn f=>X= .ref f
 | .cls c=>X= .ref c
 | .unb=>False
theorem aY.inv (h:aY base ρ N news v X):G3 base ρ N news v X:=by
 cases h with
 |none=>exact rfl
 |bool=>exact rfl
 |int=>exact⟨_,rfl⟩
 |str _ _ h=>exact⟨_,rfl,h⟩
 |bytes=>exact⟨_,rfl⟩
 |ref _ h=>exact⟨rfl,h⟩
 |tup a b c=>exact⟨_,_,_,rfl,a,b,c⟩
 |rng a b=>exact⟨_,_,_,_,rfl,a,b⟩
 |frz a b=>exact⟨_,_,rfl,a,b⟩
 |fn=>exact rfl
 |cls=>exact rfl
theorem aY.noneInv (h:aY base ρ N news .none X):X= .none:=h.inv
theorem aY.boolInv {b:Bool}(h:aY base ρ N news (.bool b) X):X= .bool b:=h.inv
theorem aY.intInv {i:Int}(h:aY base ρ N news (.int i) X): ∃t,X= .int i t:=h.inv
theorem aY.strInv {k:Nat}(h:aY base ρ N news (.str k) X): ∃t,X= .str (nm k) t∧k<223:=h.inv
theorem aY.bytesInv {b:List UInt8}(h:aY base ρ N news (.bytes b) X): ∃t,X= .bytes b.toArray t:=h.inv
theorem aY.refInv {n:Nat}(h:aY base ρ N news (.ref n) X):X= .ref (ρ n)∧n<N:=h.inv
theorem aY.tupInv {vs:List MV}(h:aY base ρ N news (.tup vs) X):iX fun a Vs k=>cC (X= .ref a) ((a,eR Vs k)∈news) (cK ρ N a) (br base ρ N news vs Vs):=h.inv
theorem aY.rngInv {a b:Int}(h:aY base ρ N news (.rng a b) X):jM fun r t u v=>bx (X= .ref r) ((r,fE a b 1 t u v)∈news) (cK ρ N r):=h.inv
theorem aY.frzInv {vs:List MV}(h:aY base ρ N news (.frz vs) X):dk fun a Vs=>bx (X= .ref a) (base.IsList a Vs.toArray) (br base ρ N news vs Vs):=h.inv
theorem br.consInv {v:MV}{vs:List MV}{Vs:List Value}(h:br base ρ N news (v::vs) Vs):dk fun V Ws=>bx (Vs=V::Ws) (aY base ρ N news v V) (br base ρ N news vs Ws):=by
 cases h with|cons a b=>exact⟨_,_,rfl,a,b⟩
theorem br.nilInv {Vs:List Value}(h:br base ρ N news [] Vs):Vs=[]:=by cases h;rfl
end
section
variable{w:World}{base h₀ h:Heap}{L:Addr}{m:Str→Option Value}{news:Led}{ρ:Nat→Addr}{H:HH}{n:Nat}
noncomputable def Ea(pw:Program)(w:World)(base:Heap)(ρ:Nat→Addr)(N:Nat)(news:Led)(o:MO)(ob:Obj):Prop:=match o with
 | .inst c d=>ob=instObj c (ρ d)∧d<N∧(dC dW c).isSome=true
 | .attrs fs=>dk fun es k=>ob=dictOf es k∧fj base ρ N news fs es
 | .list xs=>dk fun Vs k=>ob=listOf (List.toArray Vs) k∧br base ρ N news xs Vs
 | .dictS es=> ∃kvs,bx (ob.IsDictOf (strKind pw w) kvs) ((∀p∈es,p.1<223)) (cP nm base ρ N news es kvs)
 | .dictI es=> ∃kvs,ob.IsDictOf (intKind pw w) kvs∧cP id base ρ N news es kvs
 | .barr b=>ob={cls:= .type "bytearray",data:= .bytearray b.toArray 0}
theorem iy.inv {N:Nat}{o:MO}{ob:Obj}(h:iy pw w base ρ N news o ob):Ea pw w base ρ N news o ob:=by
 cases h with
 |inst _ _ a b=>exact⟨rfl,a,b⟩
 |attrs k r=>exact⟨_,k,rfl,r⟩
 |list k r=>exact⟨_,k,rfl,r⟩
 |dictS a b c=>exact⟨_,a,b,c⟩
 |dictI a c=>exact⟨_,a,c⟩
 |barr=>exact rfl
theorem Rel.inv (R:Rel pw w base h₀ L h m news ρ H){o:MO}(e:H[n]? =some o): ∃ob,(ρ n,ob)∈news∧Ea pw w base ρ H.length news o ob:=
 let ⟨ob,a,b⟩:=R.cell n o e
 ⟨ob,a,b.inv⟩
theorem Rel.listAt (R:Rel pw w base h₀ L h m news ρ H){xs:List MV}(e:H[n]? =some (.list xs)):dk fun Vs k=>(ρ n,listOf Vs.toArray k)∈news∧br base ρ H.length news xs Vs:=
 let ⟨_,a,Vs,k,q,r⟩:=R.inv e
 ⟨Vs,k,q▸a,r⟩
theorem Rel.barrAt (R:Rel pw w base h₀ L h m news ρ H){b:List UInt8}(e:H[n]? =some (.barr b)):(ρ n,({cls:= .type "bytearray",data:= .bytearray b.toArray 0}:Obj))∈news:=
 let ⟨_,a,q⟩:=R.inv e
 q▸a
theorem Rel.dictIAt (R:Rel pw w base h₀ L h m news ρ H){es:List (Int×MV)}(e:H[n]? =some (.dictI es)):dk fun ob kvs=>bx ((ρ n,ob)∈news) (ob.IsDictOf (intKind pw w) kvs) (cP id base ρ H.length news es kvs):=
 let ⟨ob,a,kvs,x,y⟩:=R.inv e
 ⟨ob,kvs,a,x,y⟩
theorem Rel.dictSAt (R:Rel pw w base h₀ L h m news ρ H){es:List (Nat×MV)}(e:H[n]? =some (.dictS es)):dk fun ob kvs=>cC ((ρ n,ob)∈news) (ob.IsDictOf (strKind pw w) kvs) ((∀p∈es,p.1<223)) (cP nm base ρ H.length news es kvs):=
 let ⟨ob,a,kvs,x,y,z⟩:=R.inv e
 ⟨ob,kvs,a,x,y,z⟩
theorem Rel.instAt (R:Rel pw w base h₀ L h m news ρ H){c d:Nat}(e:H[n]? =some (.inst c d)):(ρ n,instObj c (ρ d))∈news∧d<H.length∧(dC dW c).isSome=true:=
 let ⟨_,a,q,x,y⟩:=R.inv e
 ⟨q▸a,x,y⟩
theorem Rel.attrsAt (R:Rel pw w base h₀ L h m news ρ H){fs:List (Nat×MV)}(e:H[n]? =some (.attrs fs)):dk fun es k=>(ρ n,dictOf es k)∈news∧fj base ρ H.length news fs es:=
 let ⟨_,a,es,k,q,r⟩:=R.inv e
 ⟨es,k,q▸a,r⟩
end
theorem oq{α:Type}{a b:MV}{f:Int→Int→Option α}{r:α}(e:gR a b f=some r):dk fun x y=>bx (a= .int x) (b= .int y) (f x y=some r):=by
 cases a with
 |int x=>
  cases b with
  |int y=>exact⟨x,y,rfl,rfl,e⟩
  |_=>exact aV e
 |_=>exact aV e
theorem bY{α:Type}{a b:MV}{f:Int→Int→Option α}{r:α}(e:gR a b f=some r){base:Heap}{ρ:Nat→Addr}{N:Nat}{news:Led}{X Y:Value}(hx:aY base ρ N news a X)(hy:aY base ρ N news b Y):
  jM fun x t y u=>bx (X= .int x t) (Y= .int y u) (f x y=some r):=by
 obtain⟨x,y,p,q,e⟩:=oq e
 obtain⟨t,hX⟩:=(p▸hx).intInv
 obtain⟨u,hY⟩:=(q▸hy).intInv
 exact⟨x,t,y,u,hX,hY,e⟩
theorem i7 {α:Type}{a b:MV}{f:Nat→Nat→Option α}{r:α}(e:xX a b f=some r){base:Heap}{ρ:Nat→Addr}{N:Nat}{news:Led}{X Y:Value}(hx:aY base ρ N news a X)(hy:aY base ρ N news b Y):
  jM fun(x:Nat)(t:Tok)(y:Nat)(u:Tok)=>bx (X= .int (.ofNat x) t) (Y= .int (.ofNat y) u) (f x y=some r):=by
 obtain⟨x,t,y,u,p,q,e⟩:=bY e hx hy
 cases x with
 |ofNat x=>
  cases y with
  |ofNat y=>exact⟨x,t,y,u,p,q,e⟩
  |negSucc y=>exact aV e
 |negSucc x=>exact aV e
theorem gW{H:HH}{v:MV}{xs:List MV}(e:listAt H v=some xs): ∃n,v= .ref n∧H[n]? =some (.list xs):=by
 cases v with
 |ref n=>
  refine⟨n,rfl,?_⟩
  unfold listAt at e
  dsimp only at e
  cases q:H[n]? with
  |none=>rw[q]at e;exact aV e
  |some c=>
   rw[q]at e
   cases c with
   |list ys=>cases e;rfl
   |_=>exact aV e
 |_=>exact aV e
theorem en{H:HH}{v:MV}{xs:List MV}(e:listAt H v=some xs){w:World}{base h₀ h:Heap}{L:Addr}{m:Str→Option Value}{news:Led}{ρ:Nat→Addr}(R:Rel pw w base h₀ L h m news ρ H){X:Value}
  (hx:aY base ρ H.length news v X):iX fun n Vs k=>bx (X= .ref (ρ n)) ((ρ n,listOf Vs.toArray k)∈news) (br base ρ H.length news xs Vs):=by
 obtain⟨n,p,g⟩:=gW e
 obtain⟨Vs,k,a,b⟩:=R.listAt g
 exact⟨n,Vs,k,(p▸hx).refInv.1,a,b⟩
theorem kj{H:HH}{n:Nat}{b:List UInt8}(e:barrAt H n=some b):H[n]? =some (.barr b)∧b.length≤1000000:=by
 unfold barrAt at e
 cases q:H[n]? with
 |none=>rw[q]at e;exact aV e
 |some c=>
  rw[q]at e
  cases c with
  |barr ys=>
   dsimp only at e
   cases z:Nat.ble ys.length 1000000 with
   |true=>rw[z]at e;cases e;exact⟨rfl,Nat.le_of_ble_eq_true z⟩
   |false=>rw[z]at e;exact aV e
  |_=>exact aV e
theorem rF{as:List MV}{v:MV}(e:one as=some v):as=[v]:=by
 cases as with
 |nil=>exact aV e
 |cons a r=>
  cases r with
  |nil=>cases e;rfl
  |cons b r=>exact aV e
theorem yr{α:Type}{as:List MV}{f:MV→MV→Option α}{r:α}(e:two as f=some r):dk fun a b=>as=[a,b]∧f a b=some r:=by
 cases as with
 |nil=>exact aV e
 |cons a l=>
  unfold two at e
  dsimp only at e
  cases q:one l with
  |none=>rw[q]at e;exact aV e
  |some b=>rw[q]at e;exact⟨a,b,by rw[rF q],e⟩
theorem fk{as:List MV}{v:MV}(e:one as=some v){base:Heap}{ρ:Nat→Addr}{N:Nat}{news:Led}{Vs:List Value}(h:br base ρ N news as Vs): ∃V,Vs=[V]∧aY base ρ N news v V:=by
 obtain⟨V,Ws,p,q,r⟩:=(rF e▸h).consInv
 exact⟨V,by rw[p,r.nilInv],q⟩
theorem kl{α:Type}{as:List MV}{f:MV→MV→Option α}{r:α}(e:two as f=some r){base:Heap}{ρ:Nat→Addr}{N:Nat}{news:Led}{Vs:List Value}(h:br base ρ N news as Vs):
  jM fun a b A B=>cC (Vs=[A,B]) (aY base ρ N news a A) (aY base ρ N news b B) (f a b=some r):=by
 obtain⟨a,b,p,e⟩:=yr e
 obtain⟨V,Ws,p,q,r⟩:=(p▸h).consInv
 obtain⟨U,Us,p',q',r'⟩:=r.consInv
 exact⟨a,b,V,U,by rw[p,p',r'.nilInv],q,q',e⟩
end Mine.Internal
end
section
namespace Mine.Internal
open PySem PySem.Spec PySem.Calls PyProof.Rows PySem.W PySem.SeqAt
noncomputable def codeOf(k:Nat):Nat:=(nm k).cps.toList.foldl (fun a c=>a*256+c) 1
noncomputable def u4:List Nat→Bool
 |[]=>true
 |a::r=>(r.all fun b=> !Nat.beq a b)&&u4 r
theorem jx: ∀{l:List Nat},u4 l=true→l.Nodup
 |[],_=>List.nodup_nil
 |a::r,h=>by
  obtain⟨h1,h2⟩:=Bool.and_eq_true_iff.mp h
  refine List.nodup_cons.mpr ⟨fun hm=> ?_,jx h2⟩
  have:=List.all_eq_true.mp h1 a hm
  rw[Nat.beq_refl]at this
  cases this
theorem ot:((List.range 223).map codeOf).Nodup:=jx (by decide+kernel)
theorem i8 {a b:Nat}(ha:a<223)(hb:b<223)(h:nm a=nm b):a=b:=by
 have e:codeOf a=codeOf b:=by unfold codeOf;rw[h]
 refine(List.getElem?_inj (by simpa using ha) ot).mp ?_
 rw[List.getElem?_map,List.getElem?_map,List.getElem?_range ha,List.getElem?_range hb]
 exact congrArg some e
section
variable{w:World}{base h₀ h h':Heap}{L:Addr}{m:Str→Option Value}{news:Led}{ρ:Nat→Addr}{N:Nat}{H:HH}{A:Around}{s:Shared}
theorem km{a b:Nat}(ha:a<223)(hb:b<223):(nm a==nm b)=Nat.beq a b:=by
 by_cases e:a=b
 ·subst e;simp
 ·have h1:nm a≠nm b:=fun h=>e (i8 ha hb h)
  have h2:Nat.beq a b=false:=by
   cases h:Nat.beq a b with
   |true=>exact absurd (Nat.eq_of_beq_eq_true h) e
   |false=>rfl
  rw[h2]
  exact beq_eq_false_iff_ne.mpr h1
inductive V2:Value→Value→Bool→Prop
 |nn:V2 .none .none true
 |ni (i:Int)(t:Tok):V2 .none (.int i t) false
 |bb (a b:Bool):V2 (.bool a) (.bool b) (a==b)
 |iN (i:Int)(t:Tok):V2 (.int i t) .none false
 |ii (a:Int)(t:Tok)(b:Int)(u:Tok):V2 (.int a t) (.int b u) (decide (a=b))
 |ss (a:Str)(t:Tok)(b:Str)(u:Tok):V2 (.str a t) (.str b u) (a==b)
 |yy (a:List UInt8)(t:Tok)(b:List UInt8)(u:Tok):V2 (.bytes a.toArray t) (.bytes b.toArray u) (decide (a=b))
theorem ql{x y:MV}{b:Bool}(e:nX x y=some b){X Y:Value}(hx:aY base ρ N news x X)(hy:aY base ρ N news y Y):V2 X Y b:=by
 have hx:=hx.inv
 have hy:=hy.inv
 cases x with
 |none=>
  cases y with
  |none=>rw[hx,hy,←Option.some.inj e];exact .nn
  |int i=>obtain⟨t,hy⟩:=hy;rw[hx,hy,←Option.some.inj e];exact .ni _ _
  |_=>exact aV e
 |bool a=>
  cases y with
  |bool c=>rw[hx,hy,←Option.some.inj e];exact .bb _ _
  |_=>exact aV e
 |int i=>
  obtain⟨t,hx⟩:=hx
  cases y with
  |none=>rw[hx,hy,←Option.some.inj e];exact .iN _ _
  |int j=>obtain⟨u,hy⟩:=hy;rw[hx,hy,←Option.some.inj e];exact .ii _ _ _ _
  |_=>exact aV e
 |str k=>
  obtain⟨t,hx,hk⟩:=hx
  cases y with
  |str j=>obtain⟨u,hy,hj⟩:=hy;rw[hx,hy,←Option.some.inj e,←km hk hj];exact .ss _ _ _ _
  |_=>exact aV e
 |bytes k=>
  obtain⟨t,hx⟩:=hx
  cases y with
  |bytes j=>obtain⟨u,hy⟩:=hy;rw[hx,hy,←Option.some.inj e];exact .yy _ _ _ _
  |_=>exact aV e
 |_=>exact aV e
theorem V2.rc {X Y:Value}{b:Bool}(h:V2 X Y b):RcAt A s X Y b:=by
 cases h with
 |nn=>exact RcAt.none_none
 |ni=>exact RcAt.none_int _ _
 |bb=>exact RcAt.bool_bool _ _
 |iN=>exact RcAt.int_none _ _
 |ii a t b u=>rw[←show(a==b)=decide (a=b)from rfl];exact RcAt.int_int _ _ _ _
 |ss=>exact RcAt.str_str _ _ _ _
 |yy a t b u=>
  intro pw w E Q h
  refine eq_bytes ?_
  rw[show(a.toArray.toList==b.toArray.toList)=decide (a=b) by by_cases h:a=b<;>simp[h]];exact h
theorem V2.ne {X Y:Value}{b:Bool}(h:V2 X Y b):RcNeAt A s X Y (!b):=by
 cases h with
 |nn=>exact RcNeAt.none_none
 |ni=>exact RcNeAt.none_int _ _
 |bb=>exact RcNeAt.bool_bool _ _
 |iN=>exact RcNeAt.int_none _ _
 |ii a t b u=>rw[←show(a==b)=decide (a=b)from rfl];exact RcNeAt.int_int _ _ _ _
 |ss=>exact RcNeAt.str_str _ _ _ _
 |yy a t b u=>
  intro pw w E Q h
  refine ne_bytes ?_
  rw[show(a.toArray.toList !=b.toArray.toList)= !decide (a=b) by by_cases h:a=b<;>simp[h]];exact h
theorem V2.same {X:Value}{b:Bool}(h:V2 X X b):b=true:=by
 generalize e:X=Y at h
 have h:V2 X Y b:=by rw[e];rw[←e]at h⊢;exact h
 cases h with
 |nn=>rfl
 |ni=>cases e
 |bb=>injection e with e;rw[e];exact beq_self_eq_true _
 |iN=>cases e
 |ii=>injection e with e;rw[e];exact decide_eq_true rfl
 |ss=>injection e with e;rw[e];exact beq_self_eq_true _
 |yy=>injection e with e;exact decide_eq_true (by simpa using congrArg Array.toList e)
theorem Af{x y:MV}{b:Bool}(e:nX x y=some b){X Y:Value}(hx:aY base ρ N news x X)(hy:aY base ρ N news y Y):RcAt A s X Y b:=(ql e hx hy).rc
theorem HZ{x y:MV}{b:Bool}(e:nX x y=some b){X Y:Value}(hx:aY base ρ N news x X)(hy:aY base ρ N news y Y):RcNeAt A s X Y (!b):=(ql e hx hy).ne
theorem gX{X Y:Value}{b:Bool}(nf: ∀b t,X≠ .float b t)(hr:RcAt A s X Y b)(hs:X=Y→b=true):EqAt A s X Y b:=fun pw w E Q hq=>by
 unfold eqBool
 refine wpAny_holding ?_
 refine wpAny_ite_split (fun hab=> ?_) (fun _=> ?_)
 ·have e:=hs (eq_of_beq hab)
  subst e
  exact wpAny_bind (wpAny_rule (wpAny_pure hq))
 ·cases X<;>first
   |exact absurd rfl (nf _ _)
   |exact wpAny_bind (hr pw w E _ (wpAny_truthy_bool hq))
theorem vb{x y:MV}{b:Bool}(e:nX x y=some b){X Y:Value}(hx:aY base ρ N news x X)(hy:aY base ρ N news y Y)(h:X=Y):b=true:=by
 subst h
 exact(ql e hx hy).same
theorem aY.nf {x:MV}{X:Value}(hx:aY base ρ N news x X): ∀b t,X≠ .float b t:=by
 intro b t e;subst e;cases hx
theorem Ag{x y:MV}{b:Bool}(e:nX x y=some b){X Y:Value}(hx:aY base ρ N news x X)(hy:aY base ρ N news y Y):EqAt A s X Y b:=
 gX hx.nf (Af e hx hy) fun h=>vb e hx hy h
theorem m7 {f:MV→MV→Option Bool}{x:MV}{xs ys:List MV}{b:Bool}(h:rl f (x::xs) ys=some b):jM fun y r a c=>cC (ys=y::r) (f x y=some a) (rl f xs r=some c) ((a&&c)=b):=by
 cases ys with
 |nil=>exact aV h
 |cons y r=>
  unfold rl at h
  dsimp only at h
  cases p:f x y with
  |none=>rw[p]at h;exact aV h
  |some a=>
   rw[p]at h
   dsimp only at h
   cases q:rl f xs r with
   |none=>rw[q]at h;exact aV h
   |some c=>rw[q]at h;exact⟨y,r,a,c,rfl,p,q,Option.some.inj h⟩
theorem m8 {f:MV→MV→Option Bool}{ys:List MV}{b:Bool}(h:rl f [] ys=some b):ys=[]∧true=b:=by
 cases ys with
 |nil=>exact⟨rfl,Option.some.inj h⟩
 |cons y r=>exact aV h
theorem yt{f:MV→MV→Option Bool}: ∀{xs ys:List MV}{b:Bool},rl f xs ys=some b→xs.length=ys.length:=by
 intro xs
 induction xs with
 |nil=>intro ys b h;rw[(m8 h).1]
 |cons x xs ih=>intro ys b h;obtain⟨y,r,a,c,p,_,q,_⟩:=m7 h;rw[p,List.length_cons,List.length_cons,ih q]
theorem rG{f:MV→MV→Option Bool}: ∀{xs ys:List MV}{b:Bool},rl f xs ys=some b→
  ∃e:Nat→Bool,(∀i x y,xs[i]? =some x→ys[i]? =some y→f x y=some (e i))∧(List.range xs.length).all e=b:=by
 intro xs
 induction xs with
 |nil=>intro ys b h;exact⟨fun _=>true,fun i x y h=>by rw[List.getElem?_nil]at h;exact aV h,(m8 h).2⟩
 |cons x xs ih=>
  intro ys b h
  obtain⟨y,r,a,c,p,q,h2,hb⟩:=m7 h
  obtain⟨e,he,ha⟩:=ih h2
  refine⟨fun i=>Nat.rec a (fun i _=>e i) i,fun i x' y' hx hy=> ?_,?_⟩
  ·rw[p]at hy
   cases i with
   |zero=>rw[←Option.some.inj hx,←Option.some.inj hy];exact q
   |succ i=>exact he i x' y' hx hy
  ·rw[List.length_cons,List.range_succ_eq_map,List.all_cons,List.all_map]
   show(a&&(List.range xs.length).all e)=_
   rw[ha];exact hb
theorem dj{xs:List MV}{Xs:List Value}(h:br base ρ N news xs Xs)(j:Nat)(hj:j<Xs.toArray.size): ∃x,xs[j]? =some x∧aY base ρ N news x (Xs.toArray[j]):=by
 have hj':j<Xs.length:=by simpa using hj
 have hx:j<xs.length:=by rw[←h.length];exact hj'
 obtain⟨V,hV,hv⟩:=h.get (List.getElem?_eq_getElem hx)
 refine⟨_,List.getElem?_eq_getElem hx,?_⟩
 have:V=Xs.toArray[j]:=by
  have:=List.getElem?_eq_getElem hj'
  rw[this]at hV;simpa using (Option.some.inj hV).symm
 rw[←this];exact hv
theorem bO{a:Addr}{Vs:List Value}{k:Nat}(N':News h₀ L s.heap news)(hm:(a,eR Vs k)∈news):s.heap.IsTuple a Vs.toArray:=⟨_,(N' _ hm).1,rfl,_,rfl⟩
theorem bZ{a:Addr}{Vs:List Value}{k:Nat}(N':News h₀ L s.heap news)(hm:(a,listOf Vs.toArray k)∈news):s.heap.IsList a Vs.toArray:=⟨_,(N' _ hm).1,rfl,_,rfl⟩
theorem ou(n:Nat)(x y:MV):(dk fun a b=>bx (x= .tup a) (y= .tup b) (rm (n+1) x y=rl (rm n) a b))∨rm (n+1) x y=nX x y:=by
 cases x with
 |tup a=>
  cases y with
  |tup b=>exact .inl ⟨_,_,rfl,rfl,rfl⟩
  |_=>exact .inr rfl
 |_=>exact .inr rfl
theorem vc(nd:(news.map (·.1)).Nodup){a:Addr}{U V:List Value}{i j:Nat}(h:(a,eR U i)∈news)(g:(a,eR V j)∈news):U=V:=by
 injection gf nd h g rfl with _ q
 injection q with _ _ q
 injection q with q
 exact congrArg Array.toList q
theorem Eb{f:MV→MV→Option Bool}(hf: ∀{x y:MV}{b:Bool},f x y=some b→ ∀{X:Value},aY base ρ N news x X→aY base ρ N news y X→b=true): ∀{xs ys:List MV}{b:Bool},rl f xs ys=some b→
  ∀{Vs:List Value},br base ρ N news xs Vs→br base ρ N news ys Vs→b=true:=by
 intro xs
 induction xs with
 |nil=>intro ys b e Vs _ _;exact(m8 e).2.symm
 |cons x xs ih=>
  intro ys b e Vs rx ry
  obtain⟨y,r,a,c,p,q,h2,hb⟩:=m7 e
  obtain⟨V,Ws,e1,hx,rx⟩:=rx.consInv
  obtain⟨U,Us,e2,hy,ry⟩:=(p▸ry).consInv
  obtain⟨e3,e4⟩:=List.cons.inj (e1.symm.trans e2)
  rw[←hb,hf q hx (e3▸hy),ih h2 rx (e4▸ry)];rfl
theorem Ah(nd:(news.map (·.1)).Nodup)(n:Nat): ∀{x y:MV}{b:Bool},rm n x y=some b→ ∀{X:Value},aY base ρ N news x X→aY base ρ N news y X→b=true:=by
 induction n with
 |zero=>intro x y b e X hx hy;exact vb e hx hy rfl
 |succ n ih=>
  intro x y b e X hx hy
  rcases ou n x y with⟨u,v,p,p',q⟩|q
  ·obtain⟨a,U,i,e1,m1,_,r1⟩:=(p▸hx).tupInv
   obtain⟨c,V,j,e2,m2,_,r2⟩:=(p'▸hy).tupInv
   injection e1.symm.trans e2 with e3
   exact Eb ih (q▸e) r1 (vc nd m1 (e3▸m2)▸r2)
  ·exact vb (q▸e) hx hy rfl
theorem H0 (R:News h₀ L s.heap news)(nd:(news.map (·.1)).Nodup)(n:Nat): ∀{A:Around},A.units+n<cLine→ ∀{x y:MV}{b:Bool},rm n x y=some b→ ∀{X Y:Value},aY base ρ N news x X→aY base ρ N news y Y→RcAt A s X Y b∧RcNeAt A s X Y (!b):=by
 induction n with
 |zero=>intro A _ x y b e X Y hx hy;exact⟨Af e hx hy,HZ e hx hy⟩
 |succ n ih=>
  intro A hu x y b e X Y hx hy
  rcases ou n x y with⟨u,v,p,p',q⟩|q
  ·obtain⟨a,U,i,e1,m1,_,r1⟩:=(p▸hx).tupInv
   obtain⟨c,V,j,e2,m2,_,r2⟩:=(p'▸hy).tupInv
   have e:=q▸e
   obtain⟨f,hf,ha⟩:=rG e
   have e2':((List.range (min U.toArray.size V.toArray.size)).all f&&U.toArray.size==V.toArray.size)=b:=by
    rw[List.size_toArray,List.size_toArray,r1.length,r2.length,←yt e,Nat.min_self,ha,beq_self_eq_true,Bool.and_true]
   have lt:A.units+1+n<cLine:=yi (by assumption)
   have el: ∀j (h1:j<U.toArray.size)(h2:j<V.toArray.size),EqAt A.in1 s (U.toArray[j]'h1) (V.toArray[j]'h2) (f j):=fun j h1 h2=>by
    obtain⟨x,hx,ox⟩:=dj r1 j h1
    obtain⟨y,hy,oy⟩:=dj r2 j h2
    exact gX ox.nf (ih (A:=A.in1) lt (hf j x y hx hy) ox oy).1 fun h=>Ah nd n (hf j x y hx hy) ox (h▸oy)
   rw[e1,e2,←e2']
   exact⟨RcAt.tuples (bO R m1) (bO R m2) (mX lt) el,RcNeAt.tuples (bO R m1) (bO R m2) (mX lt) el⟩
  ·exact⟨Af (q▸e) hx hy,HZ (q▸e) hx hy⟩
theorem vd{x:MV}: ∀{xs:List MV}{b:Bool},gS xs x=some b→(∀y∈xs,∃c,nX y x=some c)∧xs.any (fun y=>nX y x==some true)=b:=by
 intro xs
 induction xs with
 |nil=>intro b h;exact⟨fun _ h=>(nomatch h),Option.some.inj h⟩
 |cons y xs ih=>
  intro b h
  unfold gS at h
  cases p:nX y x with
  |none=>rw[p]at h;exact aV h
  |some a=>
   rw[p]at h
   dsimp only at h
   cases q:gS xs x with
   |none=>rw[q]at h;exact aV h
   |some c=>
    rw[q]at h
    obtain⟨h1,h2⟩:=ih q
    refine⟨fun z hz=> ?_,?_⟩
    ·rcases List.mem_cons.mp hz with e|hz
     ·exact⟨a,e▸p⟩
     ·exact h1 z hz
    ·rw[List.any_cons,h2,p,←Option.some.inj h]
     cases a<;>rfl
theorem yu{H:HH}{x y:MV}{b:Bool}(e:z5 H x y=some b):(dk fun xs ys=>bx (listAt H x=some xs) (listAt H y=some ys) ((if Nat.beq xs.length ys.length then rl (rm 3) xs ys else some false)=some b))∨rm 3 x y=some b:=by
 cases x with
 |ref i=>
  refine .inl ?_
  unfold z5 at e
  dsimp only at e
  cases p:listAt H (.ref i)with
  |none=>rw[p]at e;exact aV e
  |some xs=>
   rw[p]at e
   dsimp only at e
   cases q:listAt H y with
   |none=>rw[q]at e;exact aV e
   |some ys=>rw[q]at e;exact⟨xs,ys,rfl,rfl,e⟩
 |_=>exact .inr e
section
variable(R:Rel pw w base h₀ L s.heap m news ρ H)(hu:A.units+100<cLine)
include R hu
theorem H7 {x y:MV}{b:Bool}(e:z5 H x y=some b){X Y:Value}(hx:aY base ρ H.length news x X)(hy:aY base ρ H.length news y Y):RcAt A s X Y b∧RcNeAt A s X Y (!b):=by
 have lt:A.units+3<cLine:=by omega
 have lt':A.units+1+3<cLine:=by omega
 rcases yu e with⟨xs,ys,g1,g2,e⟩|e
 ·obtain⟨i,U,k,e1,m1,r1⟩:=en g1 R hx
  obtain⟨j,V,l,e2,m2,r2⟩:=en g2 R hy
  have l1:=bZ R.N m1
  have l2:=bZ R.N m2
  rw[e1,e2]
  cases hl:Nat.beq xs.length ys.length with
  |true=>
   rw[hl,if_pos rfl]at e
   obtain⟨f,hf,ha⟩:=rG e
   have hsz:U.toArray.size=V.toArray.size:=by rw[List.size_toArray,List.size_toArray,r1.length,r2.length,Nat.eq_of_beq_eq_true hl]
   have he: ∀j (h1:j<U.toArray.size)(h2:j<V.toArray.size),EqAt A.in1 s (U.toArray[j]'h1) (V.toArray[j]'h2) (f j):=fun j h1 h2=>by
    obtain⟨x,hx,ox⟩:=dj r1 j h1
    obtain⟨y,hy,oy⟩:=dj r2 j h2
    exact gX ox.nf (H0 R.N R.nd 3 (A:=A.in1) lt' (hf j x y hx hy) ox oy).1 fun h=>Ah R.nd 3 (hf j x y hx hy) ox (h▸oy)
   have ha:(List.range U.toArray.size).all f=b:=by rw[List.size_toArray,r1.length];exact ha
   rw[←ha]
   exact⟨RcAt.lists l1 l2 hsz (mX lt') he,RcNeAt.lists l1 l2 hsz (mX lt') he⟩
  |false=>
   rw[hl,if_neg bF]at e
   have hne:(U.toArray.size !=V.toArray.size)=true:=by
    rw[List.size_toArray,List.size_toArray,r1.length,r2.length]
    exact bne_iff_ne.mpr (Nat.ne_of_beq_eq_false hl)
   rw[←Option.some.inj e]
   exact⟨RcAt.lists_lengths l1 l2 hne (mX lt'),RcNeAt.lists_lengths l1 l2 hne (mX lt')⟩
 ·exact H0 R.N R.nd 3 lt e hx hy
end
end
section
variable{w:World}{base h₀ h h':Heap}{L:Addr}{m:Str→Option Value}{news:Led}{ρ:Nat→Addr}{H:HH}{A:Around}{s:Shared}{E:Value→Shared→Prop}
noncomputable def bh(pw:Program)(w:World)(base h₀:Heap)(L:Addr)(m:Str→Option Value)(ρ:Nat→Addr)(news:Led)(H:HH)(s:Shared)(v:MV)(H':HH)(Q:Value→Shared→Prop):Prop:=
 ∀ρ' news' V h' tk,Rel pw w base h₀ L h' m news' ρ' H'→Ext ρ H.length news ρ' H'.length news'→aY base ρ' H'.length news' v V→Q V {s with heap:=h',toks:=tk}
theorem bh.now {v:MV}{V:Value}{Q:Value→Shared→Prop}(P:bh pw w base h₀ L m ρ news H s v H Q)(R:Rel pw w base h₀ L s.heap m news ρ H)(hv:aY base ρ H.length news v V)(tk:Nat):Q V {s with toks:=tk}:=
 P ρ news V s.heap tk R .refl hv
theorem bh.id {v:MV}{V:Value}{Q:Value→Shared→Prop}(P:bh pw w base h₀ L m ρ news H s v H Q)(R:Rel pw w base h₀ L s.heap m news ρ H)(hv:aY base ρ H.length news v V):Q V s:=
 P ρ news V s.heap s.toks R .refl hv
theorem cP.str {es:List (Nat×MV)}{kvs:List (Str×Value)}(b: ∀p∈es,p.1<223)(r:cP nm base ρ H.length news es kvs){k:Nat}(hk:k<223):
  match dS es k with
  |some v=> ∃V,valueAt kvs (nm k)=some V∧aY base ρ H.length news v V
  |none=>valueAt kvs (nm k)=none:=by
 induction r with
 |nil=>simp[dS,valueAt]
 | @cons k' v V fs es hv r ih=>
  have hk':k'<223:=b _ (.head _)
  have ih:=ih fun p hp=>b p (.tail _ hp)
  unfold dS
  cases e:Nat.beq k' k with
  |true=>
   have:=Nat.eq_of_beq_eq_true e
   subst this
   exact⟨V,by simp[valueAt],hv⟩
  |false=>
   have hne:nm k'≠nm k:=fun q=>Nat.ne_of_beq_eq_false e (i8 hk' hk q)
   have:valueAt ((nm k',V)::es) (nm k)=valueAt es (nm k):=by simp[valueAt,hne]
   rw[this]
   simpa using ih
theorem cP.int {es:List (Int×MV)}{kvs:List (Int×Value)}(r:cP id base ρ H.length news es kvs)(k:Int):
  match dB es k with
  |some v=> ∃V,valueAt kvs k=some V∧aY base ρ H.length news v V
  |none=>valueAt kvs k=none:=by
 induction r with
 |nil=>simp[dB,valueAt]
 | @cons k' v V fs es hv r ih=>
  unfold dB
  by_cases e:k'=k
  ·subst e;rw[if_pos rfl];exact⟨V,by simp[valueAt],hv⟩
  ·rw[if_neg e]
   have:valueAt ((id k',V)::es) k=valueAt es k:=by simp[valueAt,e]
   rw[this]
   exact ih
theorem cP.intSome {es:List (Int×MV)}{kvs:List (Int×Value)}(r:cP id base ρ H.length news es kvs)(k:Int):(valueAt kvs k).isSome=(dB es k).isSome:=by
 have q:=r.int k
 revert q
 cases dB es k with
 |none=>intro q;simp only at q;rw[q];rfl
 |some v=>rintro⟨V,hV,_⟩;rw[hV];rfl
theorem d8 (R:Rel pw w base h₀ L s.heap m news ρ H){K:Type} [DecidableEq K]{knd:KeyKind pw w K}{a:Addr}{ob:Obj}{kvs:List (K×Value)}(hm:(a,ob)∈news)(hd:ob.IsDictOf knd kvs):s.heap.DictOf knd a kvs:=
 Heap.dictOf_iff.mpr ⟨ob,(R.N _ hm).1,hd⟩
theorem yv(R:Rel pw w base h₀ L s.heap m news ρ H)(sm: ∃o,h₀.get? sysModules=some o){a:Addr}{ob:Obj}(hm:(a,ob)∈news):(a==sysModules)=false:=by
 obtain⟨o,ho⟩:=sm
 refine beq_eq_false_iff_ne.mpr fun e=> ?_
 have:=(R.N _ hm).2.2
 have e:a=sysModules:=e
 rw[show(a,ob).1=sysModules from e,ho]at this
 cases this
theorem lU{xs:List MV}{x:MV}{b:Bool}(e:gS xs x=some b){Xs:List Value}{X:Value}(hs:br base ρ H.length news xs Xs)(hx:aY base ρ H.length news x X):
  ∃f:Value→Bool,(∀y,y∈Xs.toArray→EqAt A.in1 s y X (f y))∧Xs.toArray.any f=b:=by
 classical
 obtain⟨p,q⟩:=vd e
 have ex: ∀Y,Y∈Xs→ ∃b:Bool,∃y∈xs,aY base ρ H.length news y Y∧nX y x=some b:=by
  intro Y hY
  obtain⟨i,hi,rfl⟩:=List.getElem_of_mem hY
  have hi':i<xs.length:=by rw[←hs.length];exact hi
  obtain⟨V,hV,hv⟩:=hs.get (List.getElem?_eq_getElem hi')
  have:V=Xs[i]:=by rw[List.getElem?_eq_getElem hi]at hV;exact(Option.some.inj hV).symm
  subst this
  obtain⟨c,hc⟩:=p _ (List.getElem_mem hi')
  exact⟨c,_,List.getElem_mem hi',hv,hc⟩
 refine⟨fun Y=>decide (∃y∈xs,aY base ρ H.length news y Y∧nX y x=some true),fun Y hY=> ?_,?_⟩
 ·obtain⟨c,y,hy,hv,hc⟩:=ex Y (by simpa using hY)
  show EqAt A.in1 s Y X (decide (∃y∈xs,aY base ρ H.length news y Y∧nX y x=some true))
  by_cases hf: ∃y∈xs,aY base ρ H.length news y Y∧nX y x=some true
  ·rw[decide_eq_true hf]
   obtain⟨y',_,hv',hc'⟩:=hf
   exact Ag hc' hv' hx
  ·rw[decide_eq_false hf]
   cases c with
   |true=>exact absurd ⟨y,hy,hv,hc⟩ hf
   |false=>exact Ag hc hv hx
 ·rw[←q,Bool.eq_iff_iff,Array.any_eq_true,List.any_eq_true]
  constructor
  ·rintro⟨i,hi,hf⟩
   obtain⟨y,hy,_,hc⟩:=of_decide_eq_true hf
   exact⟨y,hy,by rw[hc];rfl⟩
  ·rintro⟨y,hy,hc⟩
   obtain⟨i,hi,rfl⟩:=List.getElem_of_mem hy
   obtain⟨V,hV,hv⟩:=hs.get (List.getElem?_eq_getElem hi)
   obtain⟨hi',rfl⟩:=List.getElem?_eq_some_iff.mp hV
   exact⟨i,by simpa using hi',decide_eq_true ⟨_,List.getElem_mem hi,by simpa using hv,eq_of_beq hc⟩⟩
theorem ow{x:MV}{b:Bool}(e:isNone x=some b){N:Nat}{X:Value}(hx:aY base ρ N news x X):(b=true→X= .none)∧(b=false→PySem.plainIs X .none=true∧X≠ .none):=by
 have hx:=hx.inv
 have key: ∀{X:Value},PySem.plainIs X .none=true→X≠ .none→(false=true→X= .none)∧(false=false→PySem.plainIs X .none=true∧X≠ .none):=fun a b=>⟨bF,fun _=>⟨a,b⟩⟩
 cases x with
 |none=>rw[←Option.some.inj e];exact⟨fun _=>hx,fun h=>Bool.noConfusion h⟩
 |int=>obtain⟨t,hx⟩:=hx;rw[←Option.some.inj e,hx];exact key rfl Value.noConfusion
 |bool=>rw[←Option.some.inj e,show X=_ from hx];exact key rfl Value.noConfusion
 |str=>obtain⟨t,hx,_⟩:=hx;rw[←Option.some.inj e,hx];exact key rfl Value.noConfusion
 |bytes=>obtain⟨t,hx⟩:=hx;rw[←Option.some.inj e,hx];exact key rfl Value.noConfusion
 |ref=>rw[←Option.some.inj e,hx.1];exact key rfl Value.noConfusion
 |tup=>obtain⟨a,Vs,k,hx,_⟩:=hx;rw[←Option.some.inj e,hx];exact key rfl Value.noConfusion
 |_=>exact aV e
theorem kn{x y:MV}{b:Bool}(e:uc x y=some b){N:Nat}{X Y:Value}(hx:aY base ρ N news x X)(hy:aY base ρ N news y Y):Y= .none∧(b=true→X= .none)∧(b=false→PySem.plainIs X .none=true∧X≠ .none):=by
 cases y with
 |none=>exact⟨hy.inv,ow e hx⟩
 |_=>exact aV e
inductive Ga(pw:Program)(w:World)(A:Around)(s:Shared)(X Y:Value)(b:Bool):Prop
 |list {a:Addr}{Vs:Array Value}(f:Value→Bool):Y= .ref a→s.heap.IsList a Vs→(∀y,y∈Vs→EqAt A.in1 s y X (f y))→Vs.any f=b→Ga pw w A s X Y b
 |tup {a:Addr}{Vs:Array Value}(f:Value→Bool):Y= .ref a→s.heap.IsTuple a Vs→(∀y,y∈Vs→EqAt A.in1 s y X (f y))→Vs.any f=b→Ga pw w A s X Y b
 |dict {a:Addr}{k:Int}{t:Tok}{kvs:List (Int×Value)}:X= .int k t→Y= .ref a→(a==sysModules)=false→s.heap.DictOf (intKind pw w) a kvs→(valueAt kvs k).isSome=b→Ga pw w A s X Y b
theorem oz{x y:MV}{b:Bool}(e:AX H x y=some b){X Y:Value}(R:Rel pw w base h₀ L s.heap m news ρ H)(sm: ∃o,h₀.get? sysModules=some o)(hx:aY base ρ H.length news x X)(hy:aY base ρ H.length news y Y):
  Ga pw w A s X Y b:=by
 cases y with
 |ref n=>
  have hy:=hy.refInv.1
  unfold AX at e
  dsimp only at e
  cases q:H[n]? with
  |none=>rw[q]at e;exact aV e
  |some c=>
   rw[q]at e
   cases c with
   |list xs=>
    obtain⟨Vs,k,m1,r1⟩:=R.listAt q
    obtain⟨f,hf,ha⟩:=lU (A:=A) (s:=s) e r1 hx
    exact .list f hy (bZ R.N m1) hf ha
   |dictI es=>
    dsimp only at e
    cases x with
    |int k=>
     obtain⟨ob,kvs,m1,d1,r1⟩:=R.dictIAt q
     obtain⟨t,hx⟩:=hx.intInv
     exact .dict hx hy (yv R sm m1) (d8 R m1 d1) (by rw[r1.intSome k];exact Option.some.inj e)
    |_=>exact aV e
   |_=>exact aV e
 |tup xs=>
  obtain⟨a,Vs,k,hy,m1,_,r1⟩:=hy.tupInv
  obtain⟨f,hf,ha⟩:=lU (A:=A) (s:=s) e r1 hx
  exact .tup f hy (bO R.N m1) hf ha
 |_=>exact aV e
theorem kr{c:Option Bool}{b:Bool}(e:c.map (!·)=some b):c=some (!b):=by
 cases c with
 |none=>exact aV e
 |some c=>rw[←Option.some.inj e,Bool.not_not]
theorem Ai{op:CmpOp}{o:jY}(ho:nY op=some o){x y:MV}{b:Bool}(e:aI o x y H=some b){X Y:Value}{Q:Value→Shared→Prop}
  (R:Rel pw w base h₀ L s.heap m news ρ H)(sm: ∃o,h₀.get? sysModules=some o)(hu:A.units+100<cLine)
  (hx:aY base ρ H.length news x X)(hy:aY base ρ H.length news y Y)(P:bh pw w base h₀ L m ρ news H s (.bool b) H Q):wpAny (model pw w) A (compareOp op X Y) Q E s:=by
 have PN:Q (.bool b) {s with heap:=s.heap,toks:=s.toks+1}:=P.now R (.bool b) _
 replace P:Q (.bool b) s:=P.id R (.bool b)
 cases op with
 |Eq=>cases ho;exact cmp_ofEq ((H7 R hu e hx hy).1 pw w E Q P)
 |NotEq=>
  cases ho
  refine cmp_ofNotEq ((H7 R hu (kr e) hx hy).2 pw w E Q ?_)
  rw[Bool.not_not];exact P
 |Lt=>cases ho;obtain⟨i,t,j,u,e1,e2,e⟩:=bY e hx hy;rw[e1,e2];exact lt_int (Option.some.inj e▸P)
 |LtE=>cases ho;obtain⟨i,t,j,u,e1,e2,e⟩:=bY e hx hy;rw[e1,e2];exact le_int (Option.some.inj e▸P)
 |Gt=>cases ho;obtain⟨i,t,j,u,e1,e2,e⟩:=bY e hx hy;rw[e1,e2];exact gt_int (Option.some.inj e▸P)
 |GtE=>cases ho;obtain⟨i,t,j,u,e1,e2,e⟩:=bY e hx hy;rw[e1,e2];exact ge_int (Option.some.inj e▸P)
 |Is=>
  cases ho
  obtain⟨hy,p,q⟩:=kn e hx hy
  rw[hy]
  cases b with
  |true=>rw[p rfl];exact wpAny_is_self (by rfl) P
  |false=>exact wpAny_is_other (q rfl).1 (q rfl).2 P
 |IsNot=>
  cases ho
  obtain⟨hy,p,q⟩:=kn (kr e) hx hy
  rw[hy]
  cases b with
  |false=>rw[p rfl];exact wpAny_isNot_self (by rfl) P
  |true=>exact wpAny_isNot_other (q rfl).1 (q rfl).2 P
 |In=>
  cases ho
  cases oz (A:=A) e R sm hx hy with
  |list f e1 l hf ha=>rw[e1];exact in_listAt f l hf (ha▸P)
  |tup f e1 l hf ha=>rw[e1];exact in_tupleAt f l hf (ha▸P)
  |dict e0 e1 ns d hs=>rw[e0,e1];exact wpAny_in_of (knd:=intKind pw w) (intKind_is _ _ _ _) ns d.mapOf (hs▸PN)
 |NotIn=>
  cases ho
  rw[←Bool.not_not b]at P PN
  cases oz (A:=A) (kr e) R sm hx hy with
  |list f e1 l hf ha=>rw[e1];exact notIn_listAt f l hf (ha▸P)
  |tup f e1 l hf ha=>rw[e1];exact notIn_tupleAt f l hf (ha▸P)
  |dict e0 e1 ns d hs=>rw[e0,e1];exact wpAny_notIn_of (knd:=intKind pw w) (intKind_is _ _ _ _) ns d.mapOf (hs▸PN)
theorem bitNot_bitNot(x:Int):Builtin.bitNot (Builtin.bitNot x)=x:=by unfold Builtin.bitNot;rw[Int.neg_sub,Int.sub_neg,Int.add_comm,Int.add_sub_cancel]
theorem qm(x y:Nat):Builtin.bitAnd (x:Int) (y:Int)=((x&&&y:Nat):Int):=by
 unfold Builtin.bitAnd
 have h1:decide (0≤(x:Int))=true:=by simp
 have h2:decide (0≤(y:Int))=true:=by simp
 rw[h1,h2]
 simp
theorem sR(x y:Nat):Builtin.bitOr (x:Int) (y:Int)=((x|||y:Nat):Int):=by
 unfold Builtin.bitOr Builtin.bitAnd
 have h1:decide (0≤Builtin.bitNot (x:Int))=false:=by unfold Builtin.bitNot;simp;omega
 have h2:decide (0≤Builtin.bitNot (y:Int))=false:=by unfold Builtin.bitNot;simp;omega
 rw[h1,h2]
 simp only[bitNot_bitNot]
 simp
theorem ve{a b:Int}(h:nZ a b=true):IntMulOk a b:=by
 unfold nZ at h
 rcases Bool.or_eq_true_iff.mp h with h|h
 ·have:=of_decide_eq_true h
  exact IntMulOk.of_left (intBits_le_64 (DP this) (DQ this))
 ·have:=of_decide_eq_true h
  exact IntMulOk.of_right (intBits_le_64 (DP this) (DQ this))
theorem G4 {n:Nat}{V:Value}(h:aY base ρ H.length news (.ref n) V):V= .ref (ρ n)∧n<H.length:=by cases h;exact⟨rfl,by assumption⟩
theorem Ec{i:Int}{V:Value}(h:aY base ρ H.length news (.int i) V): ∃t,V= .int i t:=by cases h;exact⟨_,rfl⟩
theorem jy(_N:News h₀ L h news){a:Addr}(hl: ∀p∈news,p.1<a):a∉news.map (·.1):=fun hm=>by
 obtain⟨p,hp,e⟩:=List.mem_map.mp hm
 exact Nat.lt_irrefl _ (e▸hl p hp)
theorem bh.alloc (R:Rel pw w base h₀ L s.heap m news ρ H){c:MO}{Q:Value→Shared→Prop}(P:bh pw w base h₀ L m ρ news H s (.ref H.length) (H++[c]) Q)
  {a:Addr}{o:Obj}{h':Heap}(F':Fr h₀ L h' m)(N':News h₀ L h' ((a,o)::news))(hl: ∀p∈news,p.1<a)(ok:iy pw w base ρ H.length news c o)(tk:Nat):Q (.ref a) {s with heap:=h',toks:=tk}:=by
 obtain⟨R',x⟩:=R.alloc F' N' (jy R.N hl) ok
 have e:(Value.ref a)= .ref (upd ρ H.length a H.length):=by rw[bV]
 rw[e]
 exact P _ _ _ _ _ R' x (.ref _ (by simp))
theorem bh.tuple (R:Rel pw w base h₀ L s.heap m news ρ H){vs:List MV}{Vs:List Value}{Q:Value→Shared→Prop}(P:bh pw w base h₀ L m ρ news H s (.tup vs) H Q)
  {a:Addr}{h':Heap}{k:Nat}(F':Fr h₀ L h' m)(N':News h₀ L h' ((a,eR Vs k)::news))(hl: ∀p∈news,p.1<a)(ok:br base ρ H.length news vs Vs)(tk:Nat):Q (.ref a) {s with heap:=h',toks:=tk}:=by
 obtain⟨R',x,f⟩:=R.loose F' N' (jy R.N hl)
 exact P _ _ _ _ _ R' x (.tup (.head _) f (ok.mono x))
theorem aO{α:Type}{c:Bool}{x:Option α}{r:α}(e:(if c=true then x else none)=some r):c=true∧x=some r:=by
 cases c with
 |true=>exact⟨rfl,e⟩
 |false=>exact aV e
theorem i9 {α:Type}{c:Bool}{x y:Option α}{r:α}(e:(if c=true then x else y)=some r):(c=true∧x=some r)∨(c=false∧y=some r):=by
 cases c with
 |true=>exact .inl ⟨rfl,e⟩
 |false=>exact .inr ⟨rfl,e⟩
theorem oA{α:Type}{p:Prop} [Decidable p]{x:Option α}{r:α}(e:(if p then none else x)=some r): ¬p∧x=some r:=by
 by_cases h:p
 ·rw[if_pos h]at e;exact aV e
 ·rw[if_neg h]at e;exact⟨h,e⟩
theorem bh.pure {v v':MV}{H':HH}{Q:Value→Shared→Prop}{V:Value}(P:bh pw w base h₀ L m ρ news H s v H' Q)(e:some (v',H)=some (v,H'))(R:Rel pw w base h₀ L s.heap m news ρ H)(hv:aY base ρ H.length news v' V)(tk:Nat):
  Q V {s with heap:=s.heap,toks:=tk}:=by
 obtain⟨e1,e2⟩:=Prod.mk.inj (Option.some.inj e)
 rw[←e1,←e2]at P
 exact P.now R hv tk
theorem bh.id_at {v v':MV}{H':HH}{Q:Value→Shared→Prop}{V:Value}(P:bh pw w base h₀ L m ρ news H s v H' Q)(e:some (v',H)=some (v,H'))(R:Rel pw w base h₀ L s.heap m news ρ H)(hv:aY base ρ H.length news v' V):Q V s:=by
 obtain⟨e1,e2⟩:=Prod.mk.inj (Option.some.inj e)
 rw[←e1,←e2]at P
 exact P.id R hv
theorem bh.at {v v':MV}{H' H1:HH}{Q:Value→Shared→Prop}(P:bh pw w base h₀ L m ρ news H s v H' Q)(e:some (v',H1)=some (v,H')):bh pw w base h₀ L m ρ news H s v' H1 Q:=by
 obtain⟨e1,e2⟩:=Prod.mk.inj (Option.some.inj e)
 rw[e1,e2];exact P
theorem Ed{x y v:MV}{H':HH}(e:ub x y H=some (v,H')){X Y:Value}{Q:Value→Shared→Prop}
  (R:Rel pw w base h₀ L s.heap m news ρ H)(hx:aY base ρ H.length news x X)(hy:aY base ρ H.length news y Y)(P:bh pw w base h₀ L m ρ news H s v H' Q):wpAny (model pw w) A (binaryOp .Add X Y) Q E s:=by
 cases x with
 |int i=>
  cases y with
  |int j=>
   obtain⟨t,hx⟩:=hx.intInv
   obtain⟨u,hy⟩:=hy.intInv
   rw[hx,hy]
   exact PyProof.Rows.add_int (P.pure e R (.int _ _) _)
  |_=>exact aV e
 |bytes a=>
  cases y with
  |bytes b=>
   obtain⟨t,hx⟩:=hx.bytesInv
   obtain⟨u,hy⟩:=hy.bytesInv
   obtain⟨hc,e⟩:=aO e
   have hc:=Nat.le_of_ble_eq_true hc
   rw[hx,hy]
   refine KBy.add_bytes (by simp only[List.size_toArray];exact gV (by assumption)) fun t' k=> ?_
   rw[List.append_toArray]
   exact P.pure e R (.bytes _ _) _
  |_=>exact aV e
 |tup a=>
  cases y with
  |tup b=>
   obtain⟨p,V1,k1,hx,m1,f1,r1⟩:=hx.tupInv
   obtain⟨q,V2,k2,hy,m2,f2,r2⟩:=hy.tupInv
   obtain⟨hc,e⟩:=aO e
   obtain⟨hc,h3⟩:=Bool.and_eq_true_iff.mp hc
   obtain⟨h1,h2⟩:=Bool.and_eq_true_iff.mp hc
   have h1:=Nat.le_of_ble_eq_true h1
   have h2:0<a.length:=Nat.le_of_ble_eq_true h2
   have h3:0<b.length:=Nat.le_of_ble_eq_true h3
   rw[←r1.length]at h1 h2
   rw[←r2.length]at h1 h3
   have t1:IsTup s.heap p V1.toArray:=bO R.N m1
   have t2:IsTup s.heap q V2.toArray:=bO R.N m2
   rw[hx,hy]
   refine kde_addT R.F R.N t1 t2 (fun q=> ?_) (fun q=> ?_) h1 rfl fun D h' F' N' hl=>(P.at e).tuple R F' N' hl (by simpa using r1.append r2) _
   ·rw[show V1=[]from q]at h2;exact Nat.lt_irrefl _ h2
   ·rw[show V2=[]from q]at h3;exact Nat.lt_irrefl _ h3
  |_=>exact aV e
 |ref i=>
  unfold ub at e
  dsimp only at e
  cases g1:listAt H (.ref i)with
  |none=>rw[g1]at e;exact aV e
  |some xs=>
   rw[g1]at e
   dsimp only at e
   cases g2:listAt H y with
   |none=>rw[g2]at e;exact aV e
   |some ys=>
    rw[g2]at e
    obtain⟨hc,e⟩:=aO e
    have hc:=Nat.le_of_ble_eq_true hc
    obtain⟨i,V1,k1,hx,m1,r1⟩:=en g1 R hx
    obtain⟨j,V2,k2,hy,m2,r2⟩:=en g2 R hy
    rw[←r1.length,←r2.length]at hc
    rw[hx,hy]
    exact kmk_add_lit R.F R.N (bZ R.N m1) (bZ R.N m2) rfl (fun D h' F' N' hl=>(P.at e).alloc R F' N' hl (.list 0 (by simpa using r1.append r2)) _) (by simp only[sizeLine_eq];exact gV (by assumption))
 |_=>exact aV e
theorem Ee{op:Operator}{o:fz}(ho:j3 op=some o){x y v:MV}{H':HH}(e:cI o x y H=some (v,H')){X Y:Value}{Q:Value→Shared→Prop}
  (R:Rel pw w base h₀ L s.heap m news ρ H)(hx:aY base ρ H.length news x X)(hy:aY base ρ H.length news y Y)(P:bh pw w base h₀ L m ρ news H s v H' Q):wpAny (model pw w) A (binaryOp op X Y) Q E s:=by
 cases op with
 |Add=>cases ho;exact Ed e R hx hy P
 |Sub=>cases ho;obtain⟨i,t,j,u,e1,e2,e⟩:=bY e hx hy;rw[e1,e2];exact PyProof.Rows.sub_int (P.pure e R (.int _ _) _)
 |Mult=>
  cases ho
  obtain⟨i,t,j,u,e1,e2,e⟩:=bY e hx hy
  obtain⟨hc,e⟩:=aO e
  rw[e1,e2];exact PyProof.Rows.mul_int (P.pure e R (.int _ _) _) (ve hc)
 |FloorDiv=>
  cases ho
  obtain⟨i,t,j,u,e1,e2,e⟩:=bY e hx hy
  obtain⟨hc,e⟩:=oA e
  simp only[Bool.or_eq_true,decide_eq_true_eq,not_or]at hc
  rw[e1,e2];exact floordiv_int hc.1 (P.pure e R (.int _ _) _) (.inl (PyProof.noPylong_small (Nat.not_le.mp hc.2)))
 |Mod=>
  cases ho
  obtain⟨i,t,j,u,e1,e2,e⟩:=bY e hx hy
  obtain⟨hc,e⟩:=oA e
  rw[e1,e2];exact mod_int' hc (P.pure e R (.int _ _) _)
 |BitAnd=>
  cases ho
  obtain⟨a,t,b,u,e1,e2,e⟩:=i7 e hx hy
  rw[e1,e2]
  refine and_int ?_
  show Q (.int (Builtin.bitAnd (a:Int) (b:Int)) _) _
  rw[qm]
  exact P.pure e R (.int _ _) _
 |BitOr=>
  cases ho
  obtain⟨a,t,b,u,e1,e2,e⟩:=i7 e hx hy
  rw[e1,e2]
  refine or_int ?_
  show Q (.int (Builtin.bitOr (a:Int) (b:Int)) _) _
  rw[sR]
  exact P.pure e R (.int _ _) _
 |Pow=>
  cases ho
  obtain⟨a,t,n,u,e1,e2,e⟩:=i7 e hx hy
  obtain⟨hc,e⟩:=aO e
  obtain⟨h1,h2⟩:=Bool.and_eq_true_iff.mp hc
  have h1:=Nat.le_of_ble_eq_true h1
  have h2:=Nat.le_of_ble_eq_true h2
  rw[e1,e2]
  exact pow_int_small (by simp) (by simp only[Int.ofNat_eq_natCast];omega) (by simp only[Int.ofNat_eq_natCast];omega) (P.pure e R (.int _ _) _)
 |_=>cases ho
theorem vf{x y:Int}{X Y:Value}{Q:Value→Shared→Prop}(R:Rel pw w base h₀ L s.heap m news ρ H)(hx:aY base ρ H.length news (.int x) X)(hy:aY base ρ H.length news (.int y) Y)
  (P:bh pw w base h₀ L m ρ news H s (.int (x+y)) H Q):wpAny (model pw w) A (inplaceOp .Add X Y) Q E s:=by
 obtain⟨t,rfl⟩:=Ec hx;obtain⟨u,rfl⟩:=Ec hy
 exact PyProof.Rows.iadd_int (P.now R (.int _ _) _)
theorem dG: ∀{news:Led}{D:Addr}{o o':Obj},(news.map (·.1)).Nodup→(D,o)∈news→Upd D o o' news (cW news D o')
 |[],_,_,_,_,h=>nomatch h
 |p::r,D,o,o',nd,h=>by
  have nd':=List.nodup_cons.mp nd
  unfold cW
  rw[List.map_cons]
  by_cases e:p.1=D
  ·have hp:p=(D,o):=by
    rcases List.mem_cons.mp h with h|h
    ·exact h.symm
    ·exact absurd (List.mem_map.mpr ⟨_,h,e.symm⟩) nd'.1
   subst hp
   rw[if_pos rfl]
   have:r.map (fun p=>if p.1=D then(D,o')else p)=r:=by
    conv=>rhs;rw[←List.map_id r]
    refine List.map_congr_left fun q hq=> ?_
    rw[if_neg fun z=>nd'.1 (List.mem_map.mpr ⟨_,hq,z⟩)]
    rfl
   rw[this]
   exact .head fun q hq z=>nd'.1 (List.mem_map.mpr ⟨_,hq,z⟩)
  ·rw[if_neg e]
   have hm:(D,o)∈r:=by
    rcases List.mem_cons.mp h with h|h
    ·exact absurd (congrArg Prod.fst h.symm) e
    ·exact h
   exact .tail e (dG nd'.2 hm)
theorem Rel.turn (R:Rel pw w base h₀ L h m news ρ H){n:Nat}{c c':MO}{o:Obj}(hc:H[n]? =some c)(F':Fr h₀ L h' m)(N':News h₀ L h' (cW news (ρ n) o))
  (ok:iy pw w base ρ H.length news c' o):
  Rel pw w base h₀ L h' m (cW news (ρ n) o) ρ (H.set n c')∧Ext ρ H.length news ρ (H.set n c').length (cW news (ρ n) o):=by
 obtain⟨ob,hm,_,_⟩:=R.at hc
 have hn:=cE hc
 have hl:(H.set n c').length=H.length:=by simp
 have x:Ext ρ H.length news ρ (H.set n c').length (cW news (ρ n) o):=by
  rw[hl]
  exact⟨Nat.le_refl _,fun _ _=>rfl,fun p hp f=>⟨bC hp fun e=>f n hn e.symm,f⟩⟩
 refine⟨⟨F',N',by rw[gA];exact R.nd,fun i j hi hj=>R.inj i j (hl▸hi) (hl▸hj),fun i o' e=> ?_⟩,x⟩
 by_cases q:i=n
 ·subst q
  rw[List.getElem?_set_self hn]at e
  cases e
  exact⟨o,cD hm,ok.mono x⟩
 ·rw[List.getElem?_set_ne (Ne.symm q)]at e
  obtain⟨ob',hm',ho'⟩:=R.cell i o' e
  exact⟨ob',bC hm' fun z=>q (R.inj i n (cE e) hn z),ho'.mono x⟩
theorem ja{n:Nat}{k:Int}{i:Nat}(h:cJ n k=some i):k<2 ^ 63∧ -(2 ^ 63)≤k∧seqIndex? k n=some i∧i<n∧(0≤k→i=k.toNat)∧(k<0→i=(k+n).toNat∧ -(n:Int)≤k):=by
 unfold cJ at h
 obtain⟨hs,h⟩:=aO h
 have hs:=of_decide_eq_true hs
 unfold seqIndex?
 by_cases h0:0≤k
 ·rw[if_pos h0]at h
  by_cases h1:k<n
  ·rw[if_pos h1]at h
   have h:=Option.some.inj h
   have h2: ¬k<0:=Int.not_lt.mpr h0
   rw[if_neg h2]
   exact⟨Aa hs,uR hs,by simp[h0,h1,h],h▸(Int.toNat_lt h0).mpr h1,fun _=>h.symm,fun h=>absurd h h2⟩
  ·rw[if_neg h1]at h;exact aV h
 ·rw[if_neg h0]at h
  by_cases h1:0≤k+n
  ·rw[if_pos h1]at h
   have h:=Option.some.inj h
   have h2:k<0:=Int.not_le.mp h0
   have h3:k+(n:Int)<n:=DV h2
   rw[if_pos h2]
   exact⟨Aa hs,uR hs,by simp[h1,h3,h],h▸(Int.toNat_lt h1).mpr h3,fun h=>absurd h h0,fun _=>⟨h.symm,DU h1⟩⟩
  ·rw[if_neg h1]at h;exact aV h
theorem oB{xs:List MV}{b v:MV}(e:n3 xs b=some v):dk fun k i=>bx (b= .int k) (cJ xs.length k=some i) (xs[i]? =some v):=by
 cases b with
 |int k=>
  unfold n3 at e
  dsimp only at e
  cases q:cJ xs.length k with
  |none=>rw[q]at e;exact aV e
  |some i=>rw[q]at e;exact⟨k,i,rfl,q,e⟩
 |_=>exact aV e
noncomputable abbrev Ef (pw:Program)(w:World)(A:Around)(Q:Value→Shared→Prop)(E:Value→Shared→Prop)(s:Shared)(X Y:Value):Prop:=
 dk fun T id=>bx (s.TypeIs X T) (typeLookup (.type T) (Str.ofString "__getitem__")=pure (some (.builtin id))) (wpAny (model pw w) A (getItem X Y) Q E s)
theorem oD{xs:List MV}{b v:MV}(e:n3 xs b=some v){D:Addr}{Vs:List Value}{Y:Value}{Q:Value→Shared→Prop}(hl:s.heap.IsList D Vs.toArray)(r:br base ρ H.length news xs Vs)(hy:aY base ρ H.length news b Y)
  (P: ∀V,aY base ρ H.length news v V→Q V s):Ef pw w A Q E s (.ref D) Y:=by
 obtain⟨k,i,p,hi,he⟩:=oB e
 obtain⟨t,hy⟩:=(p▸hy).intInv
 obtain⟨h1,h2,h3,h4,h5,h6⟩:=ja hi
 obtain⟨V,hV,hv⟩:=r.get he
 have hV:Vs.toArray[i]? =some V:=by rw[List.getElem?_toArray];exact hV
 rw[hy]
 refine⟨_,_,hl.typeIs,slot_list_getitem.lookup,?_⟩
 by_cases h0:0≤k
 ·exact wpAny_getItem_list hl h0 h1 (x:=V) (h5 h0▸hV) (P V hv)
 ·obtain⟨h7,h8⟩:=h6 (Int.not_le.mp h0)
  have hz:Vs.toArray.size=xs.length:=by rw[List.size_toArray];exact r.length
  rw[←hz]at h7 h8
  exact wpAny_getItem_list_neg hl (Int.not_le.mp h0) h8 h2 (x:=V) (h7▸hV) (P V hv)
theorem sU{a b v:MV}(e:bN a b H=some v){X Y:Value}{Q:Value→Shared→Prop}(kin: ∀a Vs,base.IsList a Vs→s.heap.IsList a Vs)
  (R:Rel pw w base h₀ L s.heap m news ρ H)(hx:aY base ρ H.length news a X)(hy:aY base ρ H.length news b Y)(P:bh pw w base h₀ L m ρ news H s v H Q):Ef pw w A Q E s X Y:=by
 have PI: ∀V,aY base ρ H.length news v V→Q V s:=fun V hv=>P.id R hv
 cases a with
 |ref n=>
  rw[hx.refInv.1]
  unfold bN at e
  dsimp only at e
  cases q:H[n]? with
  |none=>rw[q]at e;exact aV e
  |some c=>
   rw[q]at e
   cases c with
   |list xs=>
    obtain⟨Vs,k,m1,r1⟩:=R.listAt q
    exact oD e (bZ R.N m1) r1 hy PI
   |dictS es=>
    dsimp only at e
    cases b with
    |str k=>
     obtain⟨ob,kvs,m1,d1,b1,r1⟩:=R.dictSAt q
     obtain⟨t,hy,hk⟩:=hy.strInv
     have z:=r1.str b1 hk
     rw[show dS es k=some v from e]at z
     obtain⟨V,hV,hv⟩:=z
     rw[hy]
     exact⟨_,_,(d8 R m1 d1).mapOf.typeIs,slot_dict_getitem.lookup,wpAny_getItem_of (strKind_is _ _ (nm k) t) (d8 R m1 d1).mapOf hV (P.now R hv _)⟩
    |_=>exact aV e
   |dictI es=>
    dsimp only at e
    cases b with
    |int k=>
     obtain⟨ob,kvs,m1,d1,r1⟩:=R.dictIAt q
     obtain⟨t,hy⟩:=hy.intInv
     have z:=r1.int k
     rw[show dB es k=some v from e]at z
     obtain⟨V,hV,hv⟩:=z
     rw[hy]
     exact⟨_,_,(d8 R m1 d1).mapOf.typeIs,slot_dict_getitem.lookup,wpAny_getItem_of (intKind_is _ _ k t) (d8 R m1 d1).mapOf hV (P.now R hv _)⟩
    |_=>exact aV e
   |_=>exact aV e
 |tup xs=>
  obtain⟨k,i,p,hi,he⟩:=oB e
  obtain⟨t,hy⟩:=(p▸hy).intInv
  obtain⟨D,Vs,n,hx,m1,_,r⟩:=hx.tupInv
  obtain⟨h1,h2,h3,h4,h5,h6⟩:=ja hi
  obtain⟨V,hV,hv⟩:=r.get he
  have ht:IsTup s.heap D Vs.toArray:=bO R.N m1
  rw[hx,hy]
  refine⟨_,_,ht.typeIs,slot_tuple_getitem.lookup,getItem_tuple ht h2 h1 (j:=i) ?_ (x:=V) (by rw[List.getElem?_toArray];exact hV) (PI V hv)⟩
  rw[List.size_toArray,r.length];exact h3
 |frz xs=>
  obtain⟨D,Vs,hx,l1,r1⟩:=hx.frzInv
  rw[hx]
  exact oD e (kin _ _ l1) r1 hy PI
 |_=>exact aV e
theorem Eg{a b v:MV}(e:bN a b H=some v){X Y:Value}{Q:Value→Shared→Prop}{value slice:Expr}(kin: ∀a Vs,base.IsList a Vs→s.heap.IsList a Vs)
  (R:Rel pw w base h₀ L s.heap m news ρ H)(hx:aY base ρ H.length news a X)(hy:aY base ρ H.length news b Y)(P:bh pw w base h₀ L m ρ news H s v H Q)
  (hs:subscripted slice false X Y=operate [X,Y] (getItem X Y)):wpAny (model pw w) A (subscriptTail value slice X Y) Q E s:=by
 obtain⟨T,id,h1,h2,h3⟩:=sU (A:=A) (E:=E) (Q:=Q) e kin R hx hy P
 exact tail_any h1 h2 h3 hs
theorem lV: ∀{news:Led}{D:Addr}{o:Obj},(news.map (·.1)).Nodup→(D,o)∈news→UpdF D o news (cW news D)
 |[],_,_,_,h=>nomatch h
 |p::r,D,o,nd,h=>by
  have nd':=List.nodup_cons.mp nd
  by_cases e:p.1=D
  ·have hp:p=(D,o):=by
    rcases List.mem_cons.mp h with h|h
    ·exact h.symm
    ·exact absurd (List.mem_map.mpr ⟨_,h,e.symm⟩) nd'.1
   subst hp
   have q:cW ((D,o)::r) D=fun o'=>(D,o')::r:=by
    funext o'
    unfold cW
    rw[List.map_cons,if_pos rfl]
    congr 1
    conv=>rhs;rw[←List.map_id r]
    refine List.map_congr_left fun q hq=> ?_
    rw[if_neg fun z=>nd'.1 (List.mem_map.mpr ⟨_,hq,z⟩)]
    rfl
   rw[q]
   exact .head fun q hq z=>nd'.1 (List.mem_map.mpr ⟨_,hq,z⟩)
  ·have hm:(D,o)∈r:=by
    rcases List.mem_cons.mp h with h|h
    ·exact absurd (congrArg Prod.fst h.symm) e
    ·exact h
   have q:cW (p::r) D=fun o'=>p::cW r D o':=by
    funext o'
    unfold cW
    rw[List.map_cons,if_neg e]
   rw[q]
   exact .tail e (lV nd'.2 hm)
theorem jz{K:Type} [DecidableEq K]{k:K}{V W:Value}{r:List (K×Value)}(hn:k∉r.map (·.1)):stored ((k,V)::r) k W=(k,W)::r:=by
 unfold stored
 simp only[List.any_cons,decide_true,Bool.true_or,if_true,List.map_cons]
 congr 1
 conv=>rhs;rw[←List.map_id r]
 refine List.map_congr_left fun q hq=> ?_
 rw[if_neg fun z=>hn (List.mem_map.mpr ⟨_,hq,z⟩)]
 rfl
theorem iz{K:Type} [DecidableEq K]{k k':K}{V W:Value}{r:List (K×Value)}(hn:k'≠k):stored ((k',V)::r) k W=(k',V)::stored r k W:=by
 unfold stored
 simp only[List.any_cons,decide_eq_false hn,Bool.false_or,List.map_cons,if_neg hn]
 split<;>rfl
theorem m9 {K:Type} [DecidableEq K]{k:K}{V:Value}{r:List (K×Value)}(hn:k∉r.map (·.1)):without ((k,V)::r) k=r:=by
 unfold without
 rw[List.filter_cons]
 simp only[ne_eq,not_true_eq_false,decide_false,Bool.false_eq_true,if_false]
 refine List.filter_eq_self.mpr fun q hq=> ?_
 simp only[decide_not,Bool.not_eq_true',decide_eq_false_iff_not]
 exact fun z=>hn (List.mem_map.mpr ⟨_,hq,z⟩)
theorem lG{K:Type} [DecidableEq K]{k k':K}{V:Value}{r:List (K×Value)}(hn:k'≠k):without ((k',V)::r) k=(k',V)::without r k:=by
 unfold without
 rw[List.filter_cons]
 simp[hn]
theorem cP.iput {N:Nat}{es:List (Int×MV)}{kvs:List (Int×Value)}(r:cP id base ρ N news es kvs)(nd:(kvs.map (·.1)).Nodup){k:Int}{v:MV}{V:Value}(hv:aY base ρ N news v V):
  cP id base ρ N news (iput es k v) (stored kvs k V):=by
 induction r with
 |nil=>exact .cons hv .nil
 | @cons k' v' V' fs es' hv' r ih=>
  have nd':=List.nodup_cons.mp nd
  unfold Mine.Internal.iput
  by_cases e:k'=k
  ·subst e;rw[if_pos rfl]
   have q:=jz (V:=V') (W:=V) (k:=k') (r:=es') nd'.1
   rw[show((id k',V')::es')=((k',V')::es')from rfl,q];exact .cons (key:=id) hv r
  ·rw[if_neg e,iz (k':=id k') e];exact .cons hv' (ih nd'.2)
theorem cP.idel {N:Nat}{es:List (Int×MV)}{kvs:List (Int×Value)}(r:cP id base ρ N news es kvs)(nd:(kvs.map (·.1)).Nodup){k:Int}:cP id base ρ N news (idel es k) (without kvs k):=by
 induction r with
 |nil=>exact .nil
 | @cons k' v' V' fs es' hv' r ih=>
  have nd':=List.nodup_cons.mp nd
  unfold Mine.Internal.idel
  by_cases e:k'=k
  ·subst e;rw[if_pos rfl]
   have q:=m9 (V:=V') (k:=k') (r:=es') nd'.1
   rw[show((id k',V')::es')=((k',V')::es')from rfl,q];exact r
  ·rw[if_neg e,lG (k':=id k') e];exact .cons hv' (ih nd'.2)
set_option tactic.hygienic true in
theorem yw{es:List (Nat×MV)}{k:Nat}{v:MV}(b: ∀p∈es,p.1<223)(hk:k<223): ∀p∈aput es k v,p.1<223:=by
 induction es with
 |nil=>intro p hp;simp[aput]at hp;subst hp;exact hk
 |cons q r ih=>
  intro p hp
  obtain⟨k',v'⟩:=q
  unfold aput at hp
  split at hp
  ·rename_i e
   have:=Nat.eq_of_beq_eq_true e
   subst this
   rcases List.mem_cons.mp hp with rfl|hp
   ·exact hk
   ·exact b _ (.tail _ hp)
  ·rcases List.mem_cons.mp hp with rfl|hp
   ·exact b _ (.head _)
   ·exact ih (fun p hp=>b p (.tail _ hp)) _ hp
theorem cP.aput {N:Nat}{es:List (Nat×MV)}{kvs:List (Str×Value)}(r:cP nm base ρ N news es kvs)(b: ∀p∈es,p.1<223)(nd:(kvs.map (·.1)).Nodup){k:Nat}(hk:k<223){v:MV}{V:Value}(hv:aY base ρ N news v V):
  cP nm base ρ N news (aput es k v) (stored kvs (nm k) V):=by
 induction r with
 |nil=>exact .cons hv .nil
 | @cons k' v' V' fs es' hv' r ih=>
  have nd':=List.nodup_cons.mp nd
  have hk':k'<223:=b _ (.head _)
  unfold Mine.Internal.aput
  cases e:Nat.beq k' k with
  |true=>
   have:=Nat.eq_of_beq_eq_true e
   subst this
   rw[jz nd'.1];exact .cons hv r
  |false=>
   have hne:nm k'≠nm k:=fun q=>Nat.ne_of_beq_eq_false e (i8 hk' hk q)
   rw[iz hne]
   exact .cons hv' (ih (fun p hp=>b p (.tail _ hp)) nd'.2)
theorem cP.len {α β:Type}{key:α→β}{N:Nat}{es:List (α×MV)}{kvs:List (β×Value)}(r:cP key base ρ N news es kvs):kvs.length=es.length:=by
 induction r with
 |nil=>rfl
 |cons _ _ ih=>rw[List.length_cons,List.length_cons,ih]
theorem fF{K:Type} [DecidableEq K]{knd:KeyKind pw w K}{ob:Obj}{kvs:List (K×Value)}(hd:ob.IsDictOf knd kvs):(kvs.map (·.1)).Nodup:=by
 obtain⟨_,_,_,_,_,_,hn⟩:=hd
 exact hn
noncomputable def iA(pw:Program)(w:World)(base h₀:Heap)(L:Addr)(m:Str→Option Value)(ρ:Nat→Addr)(news:Led)(H:HH)(s:Shared)(H':HH)(Q:Unit→Shared→Prop):Prop:=
 ∀ρ' news' h' tk,Rel pw w base h₀ L h' m news' ρ' H'→Ext ρ H.length news ρ' H'.length news'→Q () {s with heap:=h',toks:=tk}
theorem iA.turn (R:Rel pw w base h₀ L s.heap m news ρ H){n:Nat}{c c':MO}{Q:Unit→Shared→Prop}(P:iA pw w base h₀ L m ρ news H s (H.set n c') Q)(hc:H[n]? =some c){o:Obj}{h':Heap}
  (F':Fr h₀ L h' m)(N':News h₀ L h' (cW news (ρ n) o))(ok:iy pw w base ρ H.length news c' o)(tk:Nat):Q () {s with heap:=h',toks:=tk}:=by
 obtain⟨R',x⟩:=R.turn hc F' N' ok
 exact P _ _ _ _ R' x
theorem iA.write (R:Rel pw w base h₀ L s.heap m news ρ H){n:Nat}{c c':MO}{Q:Unit→Shared→Prop}(P:iA pw w base h₀ L m ρ news H s (H.set n c') Q)(hc:H[n]? =some c){o:Obj}{h':Heap}
  (hs:Heap.SameBut (ρ n) s.heap h')(ho:h'.get? (ρ n)=some o)(ok:iy pw w base ρ H.length news c' o)(tk:Nat):Q () {s with heap:=h',toks:=tk}:=by
 obtain⟨R',x⟩:=R.write hc hs ho ok
 exact P _ _ _ _ R' x
theorem bh.turn (R:Rel pw w base h₀ L s.heap m news ρ H){n:Nat}{c c':MO}{v:MV}{V:Value}{Q:Value→Shared→Prop}(P:bh pw w base h₀ L m ρ news H s v (H.set n c') Q)(hc:H[n]? =some c){o:Obj}{h':Heap}
  (F':Fr h₀ L h' m)(N':News h₀ L h' (cW news (ρ n) o))(ok:iy pw w base ρ H.length news c' o)(hv:aY base ρ H.length news v V)(tk:Nat):Q V {s with heap:=h',toks:=tk}:=by
 obtain⟨R',x⟩:=R.turn hc F' N' ok
 exact P _ _ _ _ _ R' x (hv.mono x)
theorem ku{l:List Value}{i:Nat}{v:Value}(h:i<l.length):ki_setL l i v=some (l.set i v):=by
 induction l generalizing i with
 |nil=>simp at h
 |cons x r ih=>
  cases i with
  |zero=>rfl
  |succ i=>simp only[List.length_cons]at h;unfold ki_setL;rw[ih (Nat.lt_of_succ_lt_succ h)];rfl
theorem sV{n k:Nat}{es:List (Nat×MV)}(q:H[n]? =some (.dictS es)){v:MV}(hb:es.length≤1000){Y V:Value}{Q:Unit→Shared→Prop}(R:Rel pw w base h₀ L s.heap m news ρ H)
  (hy:aY base ρ H.length news (.str k) Y)(hv:aY base ρ H.length news v V)(P:iA pw w base h₀ L m ρ news H s (H.set n (.dictS (aput es k v))) Q):wpAny (model pw w) A (setItem (.ref (ρ n)) Y V) Q E s:=by
 obtain⟨ob,kvs,m1,d1,b1,r1⟩:=R.dictSAt q
 obtain⟨t,hy,hk⟩:=hy.strInv
 rw[←r1.len]at hb
 rw[hy]
 refine wpAny_setItem_pairs (strKind_is _ _ (nm k) t) (d8 R m1 d1) (fun h' hd' hs=> ?_) (by rw[sizeLine_eq];exact oj (by assumption))
 obtain⟨o',ho',hd'⟩:=Heap.dictOf_iff.mp hd'
 exact P.write R q hs ho' (.dictS hd' (yw b1 hk) (r1.aput b1 (fF d1) hk hv)) _
theorem sW{n:Nat}{k:Int}{es:List (Int×MV)}(q:H[n]? =some (.dictI es)){v:MV}(hb:es.length≤1000){Y V:Value}{Q:Unit→Shared→Prop}(R:Rel pw w base h₀ L s.heap m news ρ H)
  (hy:aY base ρ H.length news (.int k) Y)(hv:aY base ρ H.length news v V)(P:iA pw w base h₀ L m ρ news H s (H.set n (.dictI (iput es k v))) Q):wpAny (model pw w) A (setItem (.ref (ρ n)) Y V) Q E s:=by
 obtain⟨ob,kvs,m1,d1,r1⟩:=R.dictIAt q
 obtain⟨t,hy⟩:=hy.intInv
 rw[←r1.len]at hb
 rw[hy]
 refine wpAny_setItem_pairs (intKind_is _ _ k t) (d8 R m1 d1) (fun h' hd' hs=> ?_) (by rw[sizeLine_eq];exact oj (by assumption))
 obtain⟨o',ho',hd'⟩:=Heap.dictOf_iff.mp hd'
 exact P.write R q hs ho' (.dictI hd' (r1.iput (fF d1) hv)) _
theorem set_list{n i:Nat}{k:Int}{xs:List MV}(q:H[n]? =some (.list xs))(hi:cJ xs.length k=some i){v:MV}{Y V:Value}{Q:Unit→Shared→Prop}(R:Rel pw w base h₀ L s.heap m news ρ H)
  (hy:aY base ρ H.length news (.int k) Y)(hv:aY base ρ H.length news v V)(P:iA pw w base h₀ L m ρ news H s (H.set n (.list (xs.set i v))) Q):wpAny (model pw w) A (setItem (.ref (ρ n)) Y V) Q E s:=by
 obtain⟨V1,n1,m1,r1⟩:=R.listAt q
 obtain⟨t,hy⟩:=hy.intInv
 obtain⟨h1',h2,h3,h4,h5,h6⟩:=ja hi
 rw[←r1.length]at h3 h4
 rw[hy]
 by_cases h0:0≤k
 ·exact ki_set (q:=V1.set i V) R.F R.N h0 h1' (h5 h0▸ku h4) (dG R.nd m1) fun h' F' N'=>P.turn R q F' N' (.list n1 (r1.set i hv)) _
 ·exact ki_setNeg (q:=V1.set i V) (j:=i) R.F R.N (Int.not_le.mp (by assumption)) h2 h3 (ku h4) (dG R.nd m1) fun h' F' N'=>P.turn R q F' N' (.list n1 (r1.set i hv)) _
theorem sX{a b v:MV}{H':HH}(e:cT a b v H=some H'){X Y V:Value}{Q:Unit→Shared→Prop}(R:Rel pw w base h₀ L s.heap m news ρ H)
  (hx:aY base ρ H.length news a X)(hy:aY base ρ H.length news b Y)(hv:aY base ρ H.length news v V)(P:iA pw w base h₀ L m ρ news H s H' Q):wpAny (model pw w) A (setItem X Y V) Q E s:=by
 cases a with
 |ref n=>
  rw[hx.refInv.1]
  unfold cT at e
  dsimp only at e
  cases q:H[n]? with
  |none=>rw[q]at e;exact aV e
  |some c=>
   rw[q]at e
   cases c with
   |list xs=>
    dsimp only at e
    cases b with
    |int k=>
     obtain⟨i,hi,e⟩:=Option.map_eq_some_iff.mp e
     exact set_list q hi R hy hv (e▸P)
    |_=>exact aV e
   |dictS es=>
    dsimp only at e
    cases b with
    |str k=>
     obtain⟨hb,e⟩:=aO e
     exact sV q (Nat.le_of_ble_eq_true hb) R hy hv (Option.some.inj e▸P)
    |_=>exact aV e
   |dictI es=>
    dsimp only at e
    cases b with
    |int k=>
     obtain⟨hb,e⟩:=aO e
     exact sW q (Nat.le_of_ble_eq_true hb) R hy hv (Option.some.inj e▸P)
    |_=>exact aV e
   |_=>exact aV e
 |_=>exact aV e
theorem sY{x:MV}{xs:List MV}(h:ju (x::xs)=true): ∃i,x= .int i∧ju xs=true:=by
 cases x with
 |int i=>exact⟨i,rfl,h⟩
 |_=>exact bF h
theorem vg{xs:List MV}: ∀{Vs:List Value},br base ρ H.length news xs Vs→ju xs=true→kf_ints Vs=true:=by
 induction xs with
 |nil=>intro Vs r _;rw[r.nilInv];rfl
 |cons x xs ih=>
  intro Vs r h
  obtain⟨V,Ws,e,hv,r⟩:=r.consInv
  obtain⟨i,p,h⟩:=sY h
  obtain⟨t,hv⟩:=(p▸hv).intInv
  have q:=ih r h
  rw[e,hv]
  exact q
theorem sZ{k:Int}{x:MV}{xs ys:List MV}(h:gK k (x::xs)=some ys): ∃i,x= .int i∧(if i=k then some xs else(gK k xs).map (.int i:: ·))=some ys:=by
 cases x with
 |int i=>exact⟨i,rfl,h⟩
 |_=>exact aV h
theorem vh{k:Int}{xs:List MV}: ∀{ys:List MV}{Vs:List Value},br base ρ H.length news xs Vs→gK k xs=some ys→dk fun j Ys=>bx (kf_at k Vs=some j) (ki_delL Vs j=some Ys) (br base ρ H.length news ys Ys):=by
 induction xs with
 |nil=>intro ys Vs _ h;exact aV h
 |cons x xs ih=>
  intro ys Vs r h
  obtain⟨V,Ws,e,hv,r⟩:=r.consInv
  obtain⟨i,p,h⟩:=sZ h
  have hv':=p▸hv
  obtain⟨t,hv⟩:=hv'.intInv
  rw[e]
  by_cases hk:i=k
  ·rw[if_pos hk]at h
   refine⟨0,Ws,?_,rfl,Option.some.inj h▸r⟩
   unfold kf_at
   rw[hv,show isInt k (.int i t)=true by simp[isInt,hk]];rfl
  ·rw[if_neg hk]at h
   obtain⟨zs,hz,h⟩:=Option.map_eq_some_iff.mp h
   obtain⟨j,Ys,h1,h2,h3⟩:=ih r hz
   refine⟨j+1,V::Ys,?_,?_,h▸ .cons hv' h3⟩
   ·unfold kf_at
    rw[hv,show isInt k (.int i t)=false by simp[isInt,hk],h1];rfl
   ·unfold ki_delL;rw[h2]
theorem cQ{n:Nat}{xs:List MV}(h1:H[n]? =some (.list xs))(R:Rel pw w base h₀ L s.heap m news ρ H){name:Str}{id:String}{pl:Sem Bool}{Q:Value×List Value→Shared→Prop}
  (slot:Slot "list" name id)(hty:typeOf (.builtin id)=pure (.type "method_descriptor"))(h:Q (.builtin id,[.ref (ρ n)]) s):wpAny (model pw w) A (getMethod (.ref (ρ n)) name pl) Q E s:=by
 obtain⟨V1,n1,m1,r1⟩:=R.listAt h1
 exact kl_method R.N m1 slot hty h
theorem jb{n:Nat}{es:List (Int×MV)}(h1:H[n]? =some (.dictI es))(R:Rel pw w base h₀ L s.heap m news ρ H){name:Str}{id:String}{pl:Sem Bool}{Q:Value×List Value→Shared→Prop}
  (slot:Slot "dict" name id)(hty:typeOf (.builtin id)=pure (.type "method_descriptor"))(h:Q (.builtin id,[.ref (ρ n)]) s):wpAny (model pw w) A (getMethod (.ref (ρ n)) name pl) Q E s:=by
 obtain⟨o1,_,m1,hd,r1⟩:=R.dictIAt h1
 exact kob_method slot hty R.N m1 hd h
theorem vi{n:Nat}{xs:List MV}{v:MV}(h1:H[n]? =some (.list xs))(hb:xs.length<1000000){V:Value}{Q:Value→Shared→Prop}(R:Rel pw w base h₀ L s.heap m news ρ H)
  (hv:aY base ρ H.length news v V)(P:bh pw w base h₀ L m ρ news H s .none (H.set n (.list (xs++[v]))) Q):wpAny (model pw w) A (call (.builtin "list.append") [.ref (ρ n),V]) Q E s:=by
 obtain⟨V1,n1,m1,r1⟩:=R.listAt h1
 have hl:=r1.length
 refine append_K R.F R.N (dG R.nd m1) (fun h' F' N'=> ?_) (by rw[List.size_toArray,hl,sizeLine_eq];exact gV (Nat.le_of_lt (by assumption)))
 rw[List.push_toArray]at N'
 exact P.turn R h1 F' N' (.list _ (r1.append (.cons hv .nil))) .none _
theorem BD{n:Nat}{xs:List MV}{v:MV}{t:Tok}(h1:H[n]? =some (.list (v::xs)))(hb:xs.length<1000000){Q:Value→Shared→Prop}(R:Rel pw w base h₀ L s.heap m news ρ H)
  (P:bh pw w base h₀ L m ρ news H s v (H.set n (.list xs)) Q):wpAny (model pw w) A (call (.builtin "list.pop") [.ref (ρ n),.int 0 t]) Q E s:=by
 obtain⟨V1,n1,m1,r1⟩:=R.listAt h1
 cases r1 with
 | @cons _ V _ Vs hv r=>
  have hl:=r.length
  refine kl_popAt (k:=0) (p:=[]) (q:=Vs) (y:=V) R.F R.N (by decide) ?_ rfl (dG R.nd m1) ?_ fun h' F' N'=> ?_
  ·unfold seqIndex?;simp
  ·simp only[List.length_cons];rw[hl,sizeLine_eq];exact gV (Nat.succ_le_of_lt (by assumption))
  ·exact P.turn R h1 F' N' (.list _ r) hv _
theorem vj{n:Nat}{xs ys:List MV}{k:Int}{t:Tok}(h1:H[n]? =some (.list xs))(hi:ju xs=true)(hb:xs.length<1000000)(hr:gK k xs=some ys){Q:Value→Shared→Prop}(R:Rel pw w base h₀ L s.heap m news ρ H)
  (P:bh pw w base h₀ L m ρ news H s .none (H.set n (.list ys)) Q):wpAny (model pw w) A (call (.builtin "list.remove") [.ref (ρ n),.int k t]) Q E s:=by
 obtain⟨V1,n1,m1,r1⟩:=R.listAt h1
 have hl:=r1.length
 obtain⟨j,Ys,h2,h3,h4⟩:=vh r1 hr
 refine kf_remove R.F R.N (its:=V1.toArray) (vg r1 hi) h2 h3 (dG R.nd m1) ?_ fun h' F' N'=> ?_
 ·show V1.length≤_;rw[hl,sizeLine_eq];exact gV (Nat.le_of_lt (by assumption))
 ·exact P.turn R h1 F' N' (.list _ h4) .none _
theorem vk{n y:Nat}{xs ys:List MV}(h1:H[n]? =some (.list xs))(h2:H[y]? =some (.list ys))(hb:xs.length+ys.length≤1000000){Q:Value→Shared→Prop}(R:Rel pw w base h₀ L s.heap m news ρ H)
  (P:bh pw w base h₀ L m ρ news H s .none (H.set n (.list (xs++ys))) Q):wpAny (model pw w) A (call (.builtin "list.extend") [.ref (ρ n),.ref (ρ y)]) Q E s:=by
 obtain⟨V1,n1,m1,r1⟩:=R.listAt h1
 obtain⟨V2,n2,m2,r2⟩:=R.listAt h2
 have l1:=r1.length
 have l2:=r2.length
 have big: ¬(!V1.toArray.isEmpty&&Builtin.List.listTooLong (V1.toArray.size+V2.toArray.size))=true:=by
  simp only[List.size_toArray,l1,l2,Builtin.List.listTooLong,Bool.and_eq_true,not_and]
  intro _
  have:=sizeLine_eq
  simp only[gt_iff_lt,decide_eq_true_eq]
  omega
 by_cases he:V2=[]
 ·subst he
  refine kxn_extend R.F R.N m2 rfl (dG R.nd m1) big ?_ ?_ fun h' F' N'=> ?_
  ·show V1.length≤_;rw[l1,sizeLine_eq];exact gV (Nat.le_trans (Nat.le_add_right _ _) (by assumption))
  ·simp only[List.size_toArray,sizeLine_eq];omega
  ·cases r2
   rw[List.append_nil]at P
   exact P.turn R h1 F' N' (.list _ r1) .none _
 ·refine kl_extend R.F R.N m2 rfl ?_ (dG R.nd m1) big ?_ ?_ fun h' F' N'=> ?_
  ·show V2.length≠0
   intro z;exact he (List.length_eq_zero_iff.mp z)
  ·show V1.length≤_;rw[l1,sizeLine_eq];exact gV (Nat.le_trans (Nat.le_add_right _ _) (by assumption))
  ·simp only[List.size_toArray,sizeLine_eq];omega
  ·exact P.turn R h1 F' N' (.list _ (r1.append r2)) .none _
theorem Eh{n:Nat}{es:List (Int×MV)}{k:Int}{v:MV}{t:Tok}(h1:H[n]? =some (.dictI es))(hb:es.length≤1000)(hg:dB es k=some v){Q:Value→Shared→Prop}(R:Rel pw w base h₀ L s.heap m news ρ H)
  (P:bh pw w base h₀ L m ρ news H s v (H.set n (.dictI (idel es k))) Q):wpAny (model pw w) A (call (.builtin "dict.pop") [.ref (ρ n),.int k t]) Q E s:=by
 obtain⟨o1,_,m1,hd,r1⟩:=R.dictIAt h1
 have hl:=r1.len
 have q:=r1.int k
 rw[hg]at q
 obtain⟨V,hV,hv⟩:=q
 refine kob_pop (knd:=PySem.intKind _ _) (more:=[]) R.F R.N (lV R.nd m1) hd (intKind_is _ _ _ _) (.inl rfl) (by rfl) (PySem.F.args_dict_pop_2 _ _) hV (by rw[hl,sizeLine_eq];exact oj (by assumption)) fun h' o' F' N' hd'=> ?_
 exact P.turn R h1 F' N' (.dictI hd' (r1.idel (fF hd))) hv _
end
end Mine.Internal
end
section
namespace Mine.Internal
open PySem PySem.Spec PySem.Calls PyProof.Rows PySem.W PySem.SeqAt
open Sem (wp)
noncomputable def rH:Code→Bool
 | .builtin id _=> !Builtin.Bytes.decodersThatHold.contains id
 |_=>true
noncomputable def PB(b:Bool)(Γ:PySem.Ctx):Prop:=b=true→rH Γ.code=true∧ ∀x∈Γ.below,rH x.1=true
noncomputable def wpP{α:Type}(b:Bool)(M:Model)(A:Around)(t:Sem α)(Q:α→Shared→Prop)(s:Shared):Prop:=
 ∀Γ p,Γ.In A→PB b Γ→wp M Γ t (fun a _ s'=>Q a s') (fun _ _ _=>False) p s
noncomputable def cV(b:Bool)(M:Model)(A:Around)(c:Code)(R:Result→Shared→Prop)(s:Shared):Prop:=
 ∀Γ p,Γ.code=c→Γ.Below A→PB b Γ→wpCode M Γ R p s
section
variable{b:Bool}{α β:Type}{M:Model}{A:Around}{s:Shared}
theorem aL{t:Sem α}{Q:α→Shared→Prop}(h:wpAny M A t Q (fun _ _=>False) s):wpP b M A t Q s:=fun Γ p hΓ _=>h Γ p hΓ
theorem jT{t:Sem α}{Q:α→Shared→Prop}(h:wpP false M A t Q s):wpAny M A t Q (fun _ _=>False) s:=fun Γ p hΓ=>h Γ p hΓ (fun h=>nomatch h)
theorem eu{t:Sem α}{Q:α→Shared→Prop}{E:Value→Shared→Prop}(h:wpP false M A t Q s):wpAny M A t Q E s:=wpAny_mono (jT h) (fun _ _ x=>x) fun _ _ x=>x.elim
theorem yx{t:Sem α}{Q:α→Shared→Prop}(h:wpP false M A t Q s):wpP b M A t Q s:=aL (jT h)
theorem vl{c:Code}{R:Result→Shared→Prop}(h:codeAny M A c R s):cV b M A c R s:=fun Γ p hc hΓ _=>h Γ p hc hΓ
theorem ay{a:α}{Q:α→Shared→Prop}(h:Q a s):wpP b M A (pure a) Q s:=fun _ _ _ _=>h
theorem dH{t:Sem α}{Q Q':α→Shared→Prop}(h:wpP b M A t Q s)(hQ: ∀a s,Q a s→Q' a s):wpP b M A t Q' s:=
 fun Γ p hΓ hb=>Sem.wp_mono M Γ t (fun a _ s=>hQ a s) (fun _ _ _ h=>h) p s (h Γ p hΓ hb)
theorem aj{m:Sem α}{f:α→Sem β}{Q:β→Shared→Prop}(h:wpP b M A m (fun a s'=>wpP b M A (f a) Q s') s):wpP b M A (m>>=f) Q s:=fun Γ p hΓ hb=>by
 rw[Sem.wp_bind']
 exact Sem.wp_mono M Γ m (fun a p' s' h'=>h' Γ p' hΓ hb) (fun _ _ _ h'=>h') p s (h Γ p hΓ hb)
theorem aT{m:Sem α}{f:α→Sem β}{Q:β→Shared→Prop}(h:wpAny M A m (fun a s'=>wpP b M A (f a) Q s') (fun _ _=>False) s):wpP b M A (m>>=f) Q s:=aj (aL h)
theorem aE{vs:List Value}{m:Sem α}{Q:α→Shared→Prop}(h:wpP b M A m Q s):wpP b M A (holding vs m) Q s:=fun Γ p hΓ hb=>by
 rw[Sem.wp_holding];exact h Γ p hΓ hb
theorem aG{pos:Pos}{Q:Unit→Shared→Prop}(h:Q () s):wpP b M A (standAt pos) Q s:=fun _ _ _ _=>h
theorem ew{vs:List Value}{m:Sem Value}{Q:Value→Shared→Prop}(h:wpP b M A m Q s):wpP b M A (operate vs m) Q s:=fun Γ p hΓ hb=>by
 rw[Sem.wp_operate];exact h Γ p hΓ hb
theorem cy{m:Sem α}{k:Value→Sem Unit}{Q:α→Shared→Prop}(h:wpP b M A m Q s):wpP b M A (m.onRaise k) Q s:=fun Γ p hΓ hb=>by
 rw[Sem.wp_onRaise]
 exact Sem.wp_mono M Γ m (fun _ _ _ h'=>h') (fun _ _ _ h'=>h'.elim) p s (h Γ p hΓ hb)
theorem yz{c:Prop} [Decidable c]{x y:Sem α}{Q:α→Shared→Prop}(h:if c then wpP b M A x Q s else wpP b M A y Q s):wpP b M A (if c then x else y) Q s:=by split<;>simp_all
theorem iB{c:Prop} [Decidable c]{x y:Sem α}{Q:α→Shared→Prop}(hc: ¬c)(h:wpP b M A y Q s):wpP b M A (if c then x else y) Q s:=by rw[if_neg hc];exact h
theorem vm{c:Prop} [Decidable c]{x y:Sem α}{Q:α→Shared→Prop}(hc:c)(h:wpP b M A x Q s):wpP b M A (if c then x else y) Q s:=by rw[if_pos hc];exact h
theorem vn{c:Prop} [Decidable c]{x y:Sem α}{Q:α→Shared→Prop}(h:wpP b M A x Q s)(h':wpP b M A y Q s):wpP b M A (if c then x else y) Q s:=by
 by_cases hc:c
 ·rw[if_pos hc];exact h
 ·rw[if_neg hc];exact h'
theorem PB.enter {Γ:PySem.Ctx}(h:PB b Γ){c:Code}(hc:rH c=true)(hd:Option Value)(p:Pos):PB b (Γ.enter c hd p):=fun e=>by
 obtain⟨h1,h2⟩:=h e
 refine⟨hc,fun x hx=> ?_⟩
 have hx:x∈(Γ.code,p)::Γ.below:=hx
 rcases List.mem_cons.mp hx with rfl|hx
 ·exact h1
 ·exact h2 x hx
theorem PB.goto {Γ:PySem.Ctx}(h:PB b Γ){c:Code}(hc:rH c=true):PB b (Γ.goto c):=fun e=>⟨hc,(h e).2⟩
noncomputable def rI(Q:Value→Shared→Prop):Result→Shared→Prop:=fun r s'=>match r with| .ok (.ret v)=>Q v s'|_=>False
theorem nc{c:Code}{Q:Value→Shared→Prop}(hk:rH c=true)(hc:cV b M A c (rI Q) s):wpP b M A (runValue c) Q s:=fun Γ p hΓ hb=>by
 rw[Sem.wp_runValue]
 refine wpCode_mono (fun r s' h=> ?_) (hc _ p rfl (hΓ.enter c none p (by intro x;cases x)) (hb.enter hk none p))
 cases r with
 |error e=>exact h.elim
 |ok f=>cases f with
  |ret v=>exact h
  |_=>exact h.elim
theorem da{f:Value}{pos:List Value}{kw:List (Str×Value)}{Q:Value→Shared→Prop}(hc:cV b M A (.call f ⟨pos,kw⟩) (rI Q) s):wpP b M A (call f pos kw) Q s:=nc rfl hc
theorem yA{c:Code}{Q:Flow→Shared→Prop}(hk:rH c=true)(hc:cV b M A c (fun r s'=>match r with| .ok f=>Q f s'| .error _=>False) s):wpP b M A (run c none) Q s:=fun Γ p hΓ hb=>by
 rw[Sem.wp_run]
 refine wpCode_mono (fun r s' h=> ?_) (hc _ p rfl (hΓ.enter c none p (by intro x;cases x)) (hb.enter hk none p))
 cases r with
 |error e=>exact h.elim
 |ok f=>exact h
theorem bJ{c:Code}{R:Result→Shared→Prop}
  (h:wpP b M (A.under c) (M.den c) (fun fin s'=>match fin with| .done f=>R (.ok f) s'| .again c'=>c'.quiet=true∧rH c'=true∧cV b M A c' R s') s):cV b M A c R s:=fun Γ p hc hΓ hb=>by
 rw[wpCode_iff_wp,hc]
 refine Sem.wp_mono M Γ _ (fun fin p' s' h'=> ?_) (fun _ _ _ h'=>h'.elim) p s (h Γ p (hc▸hΓ.in) hb)
 cases fin with
 |done f=>exact h'
 |again c'=>exact⟨h'.1,h'.2.2 (Γ.goto c') p' rfl (hΓ.goto c') (hb.goto h'.2.1)⟩
theorem qn{c:Code}{R R':Result→Shared→Prop}(h:cV b M A c R s)(hR: ∀r s,R r s→R' r s):cV b M A c R' s:=fun Γ p hc hΓ hb=>wpCode_mono hR (h Γ p hc hΓ hb)
end
section
variable{b:Bool}{w:World}{A:Around}{s:Shared}{env:Env}
set_option backward.match.sparseCases true in
theorem qo{body:List Stmt}{R:Result→Shared→Prop}(h:wpP b (model pw w) (A.deeper env) (execs body env) (fun f s'=>R (.ok (.ret (match f with| .ret v=>v|_=> .none))) s') s):cV b (model pw w) A (.func body env) R s:=by
 refine bJ ?_
 show wpP b _ (A.deeper env) (do point;match←(execs body env).onRaise (leaving env)with| .ret v=>ret v|_=>ret .none) _ s
 refine aT (wpAny_point (aj (cy (dH h fun f s' h'=> ?_))))
 cases f<;>exact ay h'
set_option backward.match.sparseCases true in
theorem eS{R:Result→Shared→Prop}{a:Addr}{o:Obj}{fd:FuncData}{body:List Stmt}{args:Args}{binds:List (Str×Value)}
  (hroom:A.depth<recursionLimit)(ho:s.heap.get? a=some o)(hdata:o.data= .func fd)(hcd:s.heap.CodeRec fd.code fd.qualname)
  (hbody:fd.body= .stmts body)(hco:fd.scope.isCoroutine=false)(hgen:fd.scope.isGenerator=false)(hbind:BindsTo s fd args binds)
  (h:wpAny (model pw w) A.in1 (newFunctionEnv fd.scope fd.globals fd.closure binds (fd.qualname++ ".<locals>.") (some a) fd.code none fd.builtins)
   (fun env s₂=>s₂.heap.NoLimit∧wpP b (model pw w) (A.deeper env) (execs body env) (fun f s'=>R (.ok (.ret (match f with| .ret v=>v|_=> .none))) s') s₂) (fun _ _=>False) s):
  cV b (model pw w) A (.call (.ref a) args) R s:=by
 refine bJ ?_
 refine aT (m:=load a) (wpAny_load ho ?_)
 obtain⟨c,oc,vs,tq,hc,hoc,hdc,hq⟩:=hcd
 rw[hdata]
 show wpP b _ A.in1 (callFunction a fd args) _ s
 unfold callFunction
 rw[hc]at h⊢
 rw[hco,hgen,hbody]
 refine aT (m:=field (.ref c) 1) (wpAny_field hoc hdc hq (aj (ay ?_)))
 refine aT (hbind _ _ _ _ ?_)
 refine aT (wpAny_mono h (fun env s₂ h₂=>aT (wpAny_enterFrame h₂.1 hroom (ay ⟨rfl,rfl,qo h₂.2⟩))) fun _ _ x=>x)
end
section
variable{b:Bool}{w:World}{A:Around}{s:Shared}
theorem eT{α β:Type}{M:Model}{m:Sem α}{r:α}{f:α→Sem β}{Q:β→Shared→Prop}(x:Looks M s.heap m r)(h:wpP b M A (f r) Q s):wpP b M A (m>>=f) Q s:=aT (x.here h)
theorem ng{id:String}{args:Args}(h:Builtin.Bytes.decodersThatHold.contains id=false):rH (.builtin id args)=true:=by
 show(!Builtin.Bytes.decodersThatHold.contains id)=true
 rw[h];rfl
theorem nh{id:String}{args:Args}{B:Builtin}(hb:entryFor table id=some B):(model pw w).den (.builtin id args)=B args:=by
 show(match entryFor table id with|some b=>b args|none=>unsupported ((withoutEnding? id "#data").getD id))=_
 rw[hb]
theorem qp{K:Frag}{C:Addr}{h₀:Heap}{L:Addr}{m:Str→Option Value}{news:Led}{Q:Value→Shared→Prop}{rest:List Value}{fI:Addr}(F:Fr h₀ L s.heap m)(N:News h₀ L s.heap news)(X:K.In s.heap)(hm:makesIn K C=true)
  (hi:findIn K (.ref C) "__init__" =some (some (.ref fI)))(hf:typeIn K (.ref fI)=some (.type "function"))
  (h: ∀x dx h',Fr h₀ L h' m→News h₀ L h' ((x,instObj C dx)::(dx,emptyDict)::news)→(∀p∈news,p.1<dx)→dx<x→
   cV b (model pw w) (A.under (.builtin "type.__call__" ⟨.ref C::rest,[]⟩)) (.call (.ref fI) ⟨.ref x::rest,[]⟩) (rI fun v s'=>v= .none∧Q (.ref x) s') {s with heap:=h'}):
  cV b (model pw w) A (.call (.ref C) ⟨rest,[]⟩) (rI Q) s:=by
 have Y:=makes_of (M:=model pw w) X hm
 have hI:=looks_findIn (M:=model pw w) X hi
 have hb: ∀self,Looks (model pw w) s.heap (bindSpecial (.ref fI) self) (.ref fI,[self]):=fun self=>bind_fn X self hf
 have Y':=Y
 obtain⟨⟨oc,od,cd,sl,hC,e1,e2,e4⟩,made,base,self,top,call,typ⟩:=Y
 refine bJ ?_
 show wpP b _ _ (load C>>=fun o=>_) _ _
 refine aT (wpAny_load hC ?_)
 show wpP b _ _ (specialOf (.ref C) "__call__" >>=fun r=>_) _ _
 refine eT call ?_
 show wpP b _ _ (bindSpecial (.builtin "type.__call__") (.ref C)>>=fun r=>_) _ _
 rw[tc_bind]
 refine aj (ay ?_)
 show wpP b _ _ (Sem.bind (pure true) fun r=>_) _ _
 refine ay (a:=Fin.again (.call (.builtin "type.__call__") ⟨.ref C::rest,[]⟩)) ⟨rfl,rfl,?_⟩
 refine bJ ?_
 show wpP b _ A.in1 (do checkBuiltinCall "type.__call__" ⟨.ref C::rest,[]⟩;again (.builtin "type.__call__" ⟨.ref C::rest,[]⟩)) _ _
 refine aT (check_slot tc_kind tc_split typ (tc_args _ _ _) ?_)
 refine ay ⟨Code.quiet_builtin _ (by decide+kernel),ng (by decide+kernel),bJ ?_⟩
 rw[nh entry_typeCall]
 unfold Builtin.«type.__call__»
 have hm:Looks (model pw w) s.heap (mroOf (.ref C)) cd.mro:=((Looks.ld (part:=none) hC).andThen .now).andThen .now
 show wpP b _ _ (mroOf (.ref C)>>=fun r=>_) _ _
 refine eT hm ?_
 rw[if_neg (by rw[e4];decide)]
 show wpP b _ _ (Bind.madeBy (.ref C)>>=fun r=>_) _ _
 refine eT made ?_
 show wpP b _ _ (pure (Value.builtin "object.__new__")>>=fun r=>_) _ _
 refine aj (ay ?_)
 show wpP b _ _ (holding [Value.builtin "object.__new__"] (PySem.call (Value.builtin "object.__new__") (.ref C::rest) [])>>=fun r=>_) _ _
 refine aj (aE (aL (wpAny_call ?_)))
 obtain⟨hh,g,d,t,os⟩:=s
 refine new_K Y' hI (.inl rfl) ?_
 have k: ∀b o,hh.get? b=some o→((hh.push emptyDict).push (instObj C hh.objs.size)).get? b=some o:=fun b o e=>Heap.get?_push_of_some _ (Heap.get?_push_of_some _ e)
 have hx:((hh.push emptyDict).push (instObj C hh.objs.size)).get? (hh.objs.size+1)=some (instObj C hh.objs.size):=by heap_get
 have t1:Looks (model pw w) ((hh.push emptyDict).push (instObj C hh.objs.size)) (typeOf (.ref (hh.objs.size+1))) (.ref C):=(Looks.ld hx).andThen .now
 have s1:=self.keeps k
 have i1:=hI.keeps k
 have b1:=(hb (.ref (hh.objs.size+1))).keeps k
 dsimp only
 refine eT (t1.andThen s1) ?_
 show wpP b _ _ (holding [Value.ref (hh.objs.size+1)] (callSpecial? (.ref (hh.objs.size+1)) (Str.ofString "__init__") rest [])>>=fun r=>_) _ _
 refine aj (aE ?_)
 unfold callSpecial? specialOf
 refine eT (t1.andThen i1) ?_
 dsimp only
 refine aE (eT b1 ?_)
 refine aj (da ?_)
 have N':=(N.push F emptyDict).push (F.push _) (instObj C hh.objs.size)
 rw[Heap.size_push]at N'
 refine qn (h _ hh.objs.size _ ((F.push _).push _) N' (fun p hp=>Heap.lt_size (N p hp).1) (Nat.lt_succ_self _)) fun r s' z=> ?_
 rcases r with e|(v|_|_|_)<;>first|exact z.elim|skip
 obtain⟨rfl,z⟩:=z
 exact ay (ay z)
end
end Mine.Internal
end
section
namespace Mine.Internal.B
open PySem PySem.Spec PySem.Calls PyProof.Rows PySem.W
open PySem.Builtin
theorem mro:mroOf (.type "bytearray")=pure [.type "bytearray",.type "object"]:=by rw[mroOf_type];kernel_rfl
theorem look_new:typeLookup (.type "bytearray") "__new__" =pure (some (.builtin "bytearray.__new__")):=by rw[typeLookup_type,builtinLookup_eq_fast];kernel_rfl
theorem slot_init:Slot "bytearray" "__init__" "bytearray.__init__" :=
 .of (owner:= "bytearray") (n:= "__init__") (by rw[typeLookup_type,builtinLookup_eq_fast];kernel_rfl) (by decide+kernel) (by decide+kernel) (by decide+kernel)
  (by first|exact .inl (by decide+kernel)|exact .inr (by decide+kernel)) (by rw[isSubtype_type];kernel_rfl)
theorem sub:isSubtype (.type "bytearray") (.type "bytearray")=pure true:=by rw[isSubtype_type];kernel_rfl
theorem called:TypeCalled "bytearray" "bytearray.__new__" "bytearray.__init__" :=
 ⟨by decide+kernel,by decide+kernel,⟨_,_,mro⟩,madeBy_type mro look_new (by decide+kernel),by decide+kernel,sub,slot_init⟩
theorem typeCall:checkTypeCall "bytearray" ⟨[],[]⟩=pure ():=by kernel_rfl
theorem newCall:checkBuiltinCall "bytearray.__new__" ⟨[.type "bytearray"],[]⟩=pure ():=by kernel_rfl
theorem entry_new:entryFor table "bytearray.__new__" =some Builtin.«list.__new__» :=
 entryFor_alias (id':= "list.__new__") (by kernel_rfl) (by first|rfl|decide+kernel) (by decide+kernel) (by kernel_rfl)
theorem entry_init:entryFor table "bytearray.__init__" =some Builtin.«bytearray.__init__» :=by first|exact entryFor_of_fast (by kernel_rfl)|exact entryFor_of_tree (by kernel_rfl)
theorem plain_new:plainId "bytearray.__new__" =true:=by decide+kernel
theorem owner_new:("bytearray.__new__".splitOn ".__new__").headD "" = "bytearray" :=by rw[PySem.W.splitQ_eq];decide+kernel
theorem owner:Manifest.owners.lookup (String.ofList ['y','a','r','r','a','e','t','y','b'].reverse)=some Manifest.sig_bytearray:=by kernel_rfl
theorem args_init(a:Value):argsOk "bytearray.__init__" ⟨[a],[]⟩:=by
 unfold argsOk;rw[signature?_of (id:= "bytearray.__init__") (n:=['_','_','t','i','n','i','_','_']) (o:=['y','a','r','r','a','e','t','y','b']) (by kernel_rfl) owner];kernel_rfl
theorem slot_blen:Slot "bytearray" "__len__" "bytearray.__len__" :=
 .of (owner:= "bytearray") (n:= "__len__") (by rw[typeLookup_type,builtinLookup_eq_fast];kernel_rfl) (by decide+kernel) (by decide+kernel) (by decide+kernel)
  (by first|exact .inl (by decide+kernel)|exact .inr (by decide+kernel)) (by rw[isSubtype_type];kernel_rfl)
theorem entry_blen:entryFor table "bytearray.__len__" =some Builtin.«bytearray.__len__» :=by first|exact entryFor_of_fast (by kernel_rfl)|exact entryFor_of_tree (by kernel_rfl)
theorem args_blen(a:Value):argsOk "bytearray.__len__" ⟨[a],[]⟩:=by
 unfold argsOk;rw[signature?_of (id:= "bytearray.__len__") (n:=['_','_','n','e','l','_','_']) (o:=['y','a','r','r','a','e','t','y','b']) (by kernel_rfl) owner];kernel_rfl
theorem slot_extend:Slot "bytearray" "extend" "bytearray.extend" :=
 .of (owner:= "bytearray") (n:= "extend") (by rw[typeLookup_type,builtinLookup_eq_fast];kernel_rfl) (by decide+kernel) (by decide+kernel) (by decide+kernel)
  (by first|exact .inl (by decide+kernel)|exact .inr (by decide+kernel)) (by rw[isSubtype_type];kernel_rfl)
theorem type_extend:typeOf (.builtin "bytearray.extend")=pure (.type "method_descriptor"):=by show builtinType _=_;rw[builtinType_eq_fast];kernel_rfl
theorem entry_extend:entryFor table "bytearray.extend" =some Builtin.«bytearray.extend» :=by first|exact entryFor_of_fast (by kernel_rfl)|exact entryFor_of_tree (by kernel_rfl)
theorem args_extend(a b:Value):argsOk "bytearray.extend" ⟨[a,b],[]⟩:=by
 unfold argsOk;rw[signature?_of (id:= "bytearray.extend") (n:=['d','n','e','t','x','e']) (o:=['y','a','r','r','a','e','t','y','b']) (by kernel_rfl) owner];kernel_rfl
theorem slot_getitem:Slot "bytearray" "__getitem__" "bytearray.__getitem__" :=
 .of (owner:= "bytearray") (n:= "__getitem__") (by rw[typeLookup_type,builtinLookup_eq_fast];kernel_rfl) (by decide+kernel) (by decide+kernel) (by decide+kernel)
  (by first|exact .inl (by decide+kernel)|exact .inr (by decide+kernel)) (by rw[isSubtype_type];kernel_rfl)
theorem entry_getitem:entryFor table "bytearray.__getitem__" =some Builtin.«bytearray.__getitem__» :=by first|exact entryFor_of_fast (by kernel_rfl)|exact entryFor_of_tree (by kernel_rfl)
theorem args_getitem(a b:Value):argsOk "bytearray.__getitem__" ⟨[a,b],[]⟩:=by
 unfold argsOk;rw[signature?_of (id:= "bytearray.__getitem__") (n:=['_','_','m','e','t','i','t','e','g','_','_']) (o:=['y','a','r','r','a','e','t','y','b']) (by kernel_rfl) owner];kernel_rfl
theorem plainAttrs:PlainAttrs "bytearray" :=
 ⟨⟨"bytearray.__getattribute__",by rw[typeLookup_type,builtinLookup_eq_fast];kernel_rfl,by decide+kernel⟩,by rw[typeLookup_type,builtinLookup_eq_fast];kernel_rfl⟩
theorem nobytes:typeLookup (.type "bytearray") "__bytes__" =pure none:=by rw[typeLookup_type,builtinLookup_eq_fast];kernel_rfl
theorem noindex:typeLookup (.type "bytearray") "__index__" =pure none:=by rw[typeLookup_type,builtinLookup_eq_fast];kernel_rfl
theorem buffer:typeLookup (.type "bytearray") "__buffer__" =pure (some (.builtin "bytearray.__buffer__")):=by rw[typeLookup_type,builtinLookup_eq_fast];kernel_rfl
theorem bbytes:typeLookup (.type "bytes") "__bytes__" =pure (some (.builtin "bytes.__bytes__")):=by rw[typeLookup_type,builtinLookup_eq_fast];kernel_rfl
theorem rel:typeLookup (.type "bytearray") "__release_buffer__" =pure (some (.builtin "bytearray.__release_buffer__")):=by rw[typeLookup_type,builtinLookup_eq_fast];kernel_rfl
section
variable{w:World}{M:Model}{A:Around}{E:Value→Shared→Prop}{s:Shared}{a:Addr}{b:Array UInt8}
noncomputable abbrev Barr (h:Heap)(a:Addr)(b:Array UInt8):Prop:=h.get? a=some {cls:= .type "bytearray",data:= .bytearray b 0}
theorem Barr.typeIs (h:Barr s.heap a b):s.TypeIs (.ref a) "bytearray" :=⟨_,h,rfl⟩
theorem payload{Q:Array UInt8→Shared→Prop}(h:Barr s.heap a b)(hq:Q b s):wpAny M A (Bytes.payload (.ref a)) Q E s:=by
 unfold Bytes.payload Bytes.payload?
 exact wpAny_bind (wpAny_bind (wpAny_load h (wpAny_pure (wpAny_pure hq))))
theorem own_buffer{Q:Bool→Shared→Prop}(h:Barr s.heap a b)(hq:Q true s):wpAny M A (Bytes.slotIsOwn (.ref a) "__buffer__") Q E s:=by
 have key: ∀x:String,x= "bytearray" →wpAny M A (isInstance (.ref a) (.type x)) Q E s:=fun x hx=>by rw[hx];exact wpAny_isInstance h.typeIs sub hq
 unfold Bytes.slotIsOwn
 refine wpAny_bind (wpAny_specialOf h.typeIs buffer ?_)
 dsimp only
 rw[if_neg (by decide+kernel)]
 first
  |exact key _ (by decide+kernel)
  |exact wpAny_bind (wpAny_pure (key _ (by decide+kernel)))
theorem own_release{Q:Bool→Shared→Prop}(h:Barr s.heap a b)(hq:Q false s):wpAny M A (Bytes.ownRelease (.ref a)) Q E s:=by
 have key: ∀(x:String){Q:Bool→Shared→Prop},Q true s→x= "bytearray" →wpAny M A (isInstance (.ref a) (.type x)) Q E s:=fun x _ hq hx=>by rw[hx];exact wpAny_isInstance h.typeIs sub hq
 unfold Bytes.ownRelease Bytes.slotIsOwn
 refine wpAny_bind (wpAny_bind (wpAny_specialOf h.typeIs rel ?_))
 dsimp only
 rw[if_neg (by decide+kernel)]
 first
  |exact key _ (wpAny_pure hq) (by decide+kernel)
  |exact wpAny_bind (wpAny_pure (key _ (wpAny_pure hq) (by decide+kernel)))
theorem buffer? {id:String}{full:Bool}{Q:Option (Array UInt8)→Shared→Prop}(h:Barr s.heap a b)(hq:Q (some b) s):wpAny M A (Bytes.buffer? id (.ref a) full) Q E s:=by
 unfold Bytes.buffer?
 refine wpAny_bind (wpAny_specialOf h.typeIs buffer ?_)
 show wpAny _ _ (Bytes.slotIsOwn (.ref a) "__buffer__" >>=fun r=>_) _ _ _
 refine wpAny_bind (own_buffer h ?_)
 show wpAny _ _ (specialOf (.ref a) (Str.ofString "__buffer__")>>=fun r=>_) _ _ _
 refine wpAny_bind (wpAny_specialOf h.typeIs buffer ?_)
 show wpAny _ _ (Bytes.ownRelease (.ref a)>>=fun r=>_) _ _ _
 refine wpAny_bind (own_release h ?_)
 show wpAny _ _ (Bytes.payload (.ref a)>>=fun r=>_) _ _ _
 exact wpAny_bind (payload h (wpAny_pure hq))
end
end Mine.Internal.B
end
section
namespace Mine.Internal.B
open PySem PySem.Spec PySem.Calls PyProof.Rows PySem.W PySem.SeqAt
open PySem.Builtin
open Sem (wp)
section
variable{w:World}{M:Model}{A:Around}{E:Value→Shared→Prop}{s:Shared}{a:Addr}{b:Array UInt8}
theorem guards_nil{Γ:PySem.Ctx}(hΓ:Γ.In A)(hg:A.guards=some []){p:Pos}: ∀x∈(Γ.code,p)::Γ.below,x.1.isGuard=false:=by
 have h:=hΓ.2.2.2.1 [] hg
 obtain⟨h1,h2⟩:=List.append_eq_nil_iff.mp h
 intro x hx
 rcases List.mem_cons.mp hx with rfl|hx
 ·cases e:Γ.code.isGuard with
  |false=>rfl
  |true=>simp[Code.guards,e]at h1
 ·cases e:x.1.isGuard with
  |false=>rfl
  |true=>
   have:x.1∈guardsOf Γ.below:=by
    unfold guardsOf
    exact List.mem_filter.mpr ⟨List.mem_map_of_mem hx,e⟩
   rw[h2]at this
   cases this
theorem ne_guard{i:String}{args:Args}(h:(Code.builtin i args).isGuard=false){l:String}(k:guardIds.contains l=true): ¬i=l:=fun e=>by
 have h:guardIds.contains i=false:=h
 rw[e,k]at h
 cases h
theorem ex_one{self:Value}{c:Code}{q:Pos}(h1:rH c=true)(h2:c.isGuard=false):Bytes.exported.match_1 (motive:=fun _=>Bool) (c,q) (fun v _ _ _=>Bytes.sameRef v self) (fun v _ _ _=>Bytes.sameRef v self) (fun _ v _ _ _=>Bytes.sameRef v self) (fun v _ _ _=>Bytes.sameRef v self)
  (fun _ _ held _ _=>held.any (Bytes.sameRef self)) (fun i v _ _ _=>Bytes.sameRef v self&&Bytes.decodersThatHold.contains i) (fun _=>false)=false:=by
 cases c with
 |builtin i args=>
  have k':(!Bytes.decodersThatHold.contains i)=true:=h1
  rw[Bool.not_eq_true']at k'
  unfold Bytes.exported.match_1
  show dite (i= "bytearray.__contains__") _ _=false
  refine(dif_neg (ne_guard (l:= "bytearray.__contains__") h2 (by decide+kernel))).trans ?_
  refine(dif_neg (ne_guard (l:= "bytearray.__mod__") h2 (by decide+kernel))).trans ?_
  refine(dif_neg (ne_guard (l:= "bytearray.__rmod__") h2 (by decide+kernel))).trans ?_
  refine(dif_neg (ne_guard (l:= "_struct.pack_into.held") h2 (by decide+kernel))).trans ?_
  refine(dif_neg (ne_guard (l:= "bytearray.find.held") h2 (by decide+kernel))).trans ?_
  obtain⟨pos,kw⟩:=args
  cases pos with
  |nil=>rfl
  |cons v r=>
   show(Bytes.sameRef v self&&Bytes.decodersThatHold.contains i)=false
   rw[k',Bool.and_false]
 |_=>rfl
theorem exported{self:Value}(hg:A.guards=some []){Q:Bool→Shared→Prop}(h:Q false s):wpP true M A (Bytes.exported self) Q s:=fun Γ p hΓ hb=>by
 have hk: ∀x∈(Γ.code,p)::Γ.below,rH x.1=true:=by
  intro x hx
  rcases List.mem_cons.mp hx with e|hx
  ·rw[e];exact(hb rfl).1
  ·exact(hb rfl).2 x hx
 show Q (((Γ.code,p)::Γ.below).any _) s
 rw[List.any_eq_false.mpr (fun x hx=>Bool.eq_false_iff.mp (ex_one (q:=x.2) (hk x hx) (guards_nil hΓ hg x hx)))]
 exact h
theorem exportsOf{Q:Nat→Shared→Prop}(h:Barr s.heap a b)(hq:Q 0 s):wpAny M A (Bytes.exportsOf (.ref a)) Q E s:=by
 unfold Bytes.exportsOf
 exact wpAny_bind (wpAny_load h (wpAny_pure hq))
theorem anyExport(h:Barr s.heap a b)(hg:A.guards=some []){Q:Bool→Shared→Prop}(hq:Q false s):wpP true M A (Bytes.exported (.ref a)<||>(do return(←Bytes.exportsOf (.ref a))>0)) Q s:=by
 show wpP true _ _ (Bytes.exported (.ref a)>>=fun r=>_) _ _
 refine aj (exported hg ?_)
 show wpP true _ _ (Bytes.exportsOf (.ref a)>>=fun r=>_) _ _
 exact aT (exportsOf h (ay hq))
theorem checkResize{Q:Unit→Shared→Prop}(h:Barr s.heap a b)(hg:A.guards=some [])(hq:Q () s):wpP true M A (Bytes.checkResize (.ref a)) Q s:=by
 unfold Bytes.checkResize
 refine aj (anyExport h hg ?_)
 exact ay hq
theorem write{f:Array UInt8→Array UInt8}{Q:Unit→Shared→Prop}(h:Barr s.heap a b)(hz:(f b).size≤sizeLine)
  (hq:Barr (s.heap.update a (Obj.mapBytearray f)) a (f b)→Q () {s with heap:=s.heap.update a (Obj.mapBytearray f)}):wpAny M A (Bytes.write (.ref a) f) Q E s:=by
 show wpAny _ _ (updateBytearray a f) _ _ _
 unfold updateBytearray
 refine wpAny_bind (wpAny_load h ?_)
 show wpAny _ _ (update a (Obj.mapBytearray f)>>=fun _=>lookBehind a) _ _ _
 refine wpAny_bind (wpAny_update h ?_)
 have h₂:Barr (s.heap.update a (Obj.mapBytearray f)) a (f b):=Heap.get?_update_self (Obj.mapBytearray f) h rfl
 refine wpAny_lookBehind h₂ ?_ (hq h₂)
 show(if(f b).size>sizeLine then some "bytearray:memory" else none)=none
 rw[if_neg (Nat.not_lt.mpr hz)]
theorem new(hq:rI (fun v s'=>v= .ref s.heap.objs.size∧s'={s with heap:=s.heap.push {cls:= .type "bytearray",data:= .bytearray #[] 0}}) (.ok (.ret (.ref s.heap.objs.size))) {s with heap:=s.heap.push {cls:= .type "bytearray",data:= .bytearray #[] 0}}):
  codeAny (model pw w) A (.call (.builtin "bytearray.__new__") ⟨[.type "bytearray"],[]⟩) (rI fun v s'=>v= .ref s.heap.objs.size∧s'={s with heap:=s.heap.push {cls:= .type "bytearray",data:= .bytearray #[] 0}}) s:=by
 refine codeAny_of_tree ?_
 show wpAny _ A.in1 (do checkBuiltinCall "bytearray.__new__" ⟨[.type "bytearray"],[]⟩;again (.builtin "bytearray.__new__" ⟨[.type "bytearray"],[]⟩)) _ _ s
 refine wpAny_bind (wpAny_of_eq newCall (wpAny_pure ⟨plainId_quiet plain_new _,codeAny_builtin_stack entry_new rfl fun p st=> ?_⟩))
 rw[Around.under_plainId plain_new _]
 have hsub:=sub
 have hown:=owner_new
 obtain⟨hp,g,d,tk,os⟩:=s
 dsimp only
 rw[hown]
 wp_walk
 exact hq
theorem init{hp:Heap}{g:Array GenState}{d:Drawn}{tk:Nat}{os:OsState}{Q:Value→Shared→Prop}(h:Barr hp a #[])(hg:A.guards=some [])(hq:Q .none ⟨hp.update a (Obj.mapBytearray fun _=> #[]),g,d,tk,os⟩):
  cV true (model pw w) A (.call (.builtin "bytearray.__init__") ⟨[.ref a],[]⟩) (rI Q) ⟨hp,g,d,tk,os⟩:=by
 refine bJ ?_
 show wpP true _ A.in1 (do checkBuiltinCall "bytearray.__init__" ⟨[.ref a],[]⟩;again (.builtin "bytearray.__init__" ⟨[.ref a],[]⟩)) _ _
 have hT:(⟨hp,g,d,tk,os⟩:Shared).TypeIs (.ref a) "bytearray" :=⟨_,h,rfl⟩
 refine aT (slot_init.check _ _ _ _ _ _ _ _ hT (args_init _) ?_)
 refine ay ⟨plainId_quiet slot_init.plain _,ng (by decide+kernel),bJ ?_⟩
 rw[nh entry_init,Around.under_plainId slot_init.plain _]
 unfold Builtin.«bytearray.__init__»
 show wpP true _ _ (Bytes.ownRelease (.ref a)>>=fun r=>_) _ _
 refine aT (own_release h ?_)
 show wpP true _ _ (Bytes.bindOptional "bytearray.__init__" "bytearray" ["source","encoding","errors"] [] []>>=fun r=>_) _ _
 rw[show Bytes.bindOptional "bytearray.__init__" "bytearray" ["source","encoding","errors"] [] []=pure [none,none,none] by kernel_rfl]
 refine aj (ay ?_)
 show wpP true _ _ (pure ()>>=fun _=>_) _ _
 refine aj (ay ?_)
 show wpP true _ _ (pure ()>>=fun _=>_) _ _
 refine aj (ay ?_)
 refine aj (anyExport (A:=A.in1) h (show A.in1.guards=some []from hg) ?_)
 show wpP true _ _ (Bytes.write (.ref a) (fun _=> #[])>>=fun _=>_) _ _
 refine aT (write h (Nat.zero_le _) fun _=> ?_)
 exact ay hq
theorem make{Q:Value→Shared→Prop}(hg:A.guards=some [])
  (h: ∀h' a,a=s.heap.objs.size→Barr h' a #[]→h'.objs.size=s.heap.objs.size+1→(∀b o,s.heap.get? b=some o→h'.get? b=some o)→(∀b,b≠a→h'.get? b=s.heap.get? b)→Q (.ref a) {s with heap:=h'}):
  wpP true (model pw w) A (call (.type "bytearray") []) Q s:=by
 refine da (bJ ?_)
 refine ay (a:=Fin.again (.builtin "type.__call__" ⟨[.type "bytearray"],[]⟩)) ⟨Code.quiet_builtin _ (by decide+kernel),ng (by decide+kernel),bJ ?_⟩
 rw[nh entry_typeCall,Around.under_plain (weight_type_call_type "bytearray" [] []) rfl]
 unfold Builtin.«type.__call__»
 refine iB (by decide) ?_
 refine iB (ne_true_of_eq_false called.canCreate) ?_
 show wpP true _ _ (checkTypeCall "bytearray" ⟨[],[]⟩>>=fun _=>_) _ _
 rw[typeCall]
 refine aj (ay ?_)
 show wpP true _ _ (mroOf (.type "bytearray")>>=fun _=>_) _ _
 rw[mro]
 refine aj (ay ?_)
 refine iB (by decide) ?_
 show wpP true _ _ (Bind.madeBy (.type "bytearray")>>=fun _=>_) _ _
 rw[called.made]
 refine aj (ay ?_)
 show wpP true _ _ (pure (Value.builtin "bytearray.__new__")>>=fun _=>_) _ _
 refine aj (ay ?_)
 show wpP true _ _ (holding [Value.builtin "bytearray.__new__"] (PySem.call (Value.builtin "bytearray.__new__") [.type "bytearray"] [])>>=fun r=>_) _ _
 refine aj (aE (da (vl (codeAny_mono (new ⟨rfl,rfl⟩) fun r s' z=> ?_))))
 rcases r with e|(v|_|_|_)<;>first|exact z.elim|skip
 obtain⟨rfl,rfl⟩:=z
 obtain⟨hp,g,d,tk,os⟩:=s
 have hB:Barr (hp.push {cls:= .type "bytearray",data:= .bytearray #[] 0}) hp.objs.size #[]:=Heap.get?_push_size _ rfl
 have hT:(⟨hp.push {cls:= .type "bytearray",data:= .bytearray #[] 0},g,d,tk,os⟩:Shared).TypeIs (.ref hp.objs.size) "bytearray" :=⟨_,hB,rfl⟩
 refine aT (wpAny_isInstance hT sub ?_)
 refine iB (by decide) ?_
 show wpP true _ _ (holding [Value.ref hp.objs.size] (callSpecial? (.ref hp.objs.size) (Str.ofString "__init__") [] [])>>=fun r=>_) _ _
 refine aj (aE ?_)
 unfold callSpecial?
 refine aT (wpAny_specialOf hT slot_init.lookup ?_)
 refine aE ?_
 rw[slot_init.bind]
 refine aj (ay ?_)
 refine aj (da (init hB hg ?_))
 refine ay (ay ?_)
 have hs:=Heap.SameBut.update (h:=hp.push {cls:= .type "bytearray",data:= .bytearray #[] 0}) (a:=hp.objs.size) (f:=Obj.mapBytearray fun _=> #[])
 have q: ∀b,b≠hp.objs.size→((hp.push {cls:= .type "bytearray",data:= .bytearray #[] 0}).update hp.objs.size (Obj.mapBytearray fun _=> #[])).get? b=hp.get? b:=fun b hb=>by
  rw[hs.2 b hb]
  exact Heap.get?_push_ne _ _ _ hb
 refine h _ _ rfl (Heap.get?_update_self (Obj.mapBytearray fun _=> #[]) hB rfl) ?_ (fun b o e=> ?_) q
 ·rw[hs.1];exact Heap.size_push _ _
 ·exact(q b (Nat.ne_of_lt (Heap.lt_size e))).trans e
theorem take_eq{id:String}{x:Array UInt8}{t:Tok}:Bytes.takeBuffer? id (.bytes x t) 0=pure (some (x,none)):=by
 unfold Bytes.takeBuffer?
 rw[KBy.special_eq KBy.look_buffer,KBy.own_buffer]
 show(Functor.map (fun z=>Option.map (fun y=>(y,(none:Option Value))) z) (Bytes.buffer? id (.bytes x t)):Sem _)=_
 rw[KBy.buffer_eq]
 rfl
theorem quiet_eq{id:String}{x:Array UInt8}{t:Tok}:Bytes.takeBufferQuiet? id (.bytes x t) 0=pure (some (x,none)):=by
 unfold Bytes.takeBufferQuiet?
 rw[take_eq]
 rfl
theorem extend{hp:Heap}{g:Array GenState}{d:Drawn}{tk:Nat}{os:OsState}{Q:Value→Shared→Prop}{x:Array UInt8}{t:Tok}(h:Barr hp a b)(hg:A.guards=some [])(hz:(b++x).size≤sizeLine)
  (hq:Barr (hp.update a (Obj.mapBytearray (· ++x))) a (b++x)→Q .none ⟨hp.update a (Obj.mapBytearray (· ++x)),g,d,tk,os⟩):
  wpP true (model pw w) A (call (.builtin "bytearray.extend") [.ref a,.bytes x t]) Q ⟨hp,g,d,tk,os⟩:=by
 have hT:(⟨hp,g,d,tk,os⟩:Shared).TypeIs (.ref a) "bytearray" :=⟨_,h,rfl⟩
 refine da (bJ ?_)
 show wpP true _ A.in1 (do checkBuiltinCall "bytearray.extend" ⟨[.ref a,.bytes x t],[]⟩;again (.builtin "bytearray.extend" ⟨[.ref a,.bytes x t],[]⟩)) _ _
 refine aT (slot_extend.check _ _ _ _ _ _ _ _ hT (args_extend _ _) ?_)
 refine ay ⟨plainId_quiet slot_extend.plain _,ng (by decide+kernel),bJ ?_⟩
 rw[nh entry_extend,Around.under_plainId slot_extend.plain _]
 unfold Builtin.«bytearray.extend»
 show wpP true _ _ (specialOf (.bytes x t) (Str.ofString "__buffer__")>>=fun _=>_) _ _
 rw[KBy.special_eq KBy.look_buffer]
 refine aj (ay ?_)
 refine aj (ay ?_)
 refine vm (c:=(some (Value.builtin "bytes.__buffer__")).isSome=true) rfl ?_
 show wpP true _ _ (rule _>>=fun _=>_) _ _
 refine aT (wpAny_rule ?_)
 show wpP true _ _ (Bytes.payload (.ref a)>>=fun _=>_) _ _
 refine aT (payload h ?_)
 show wpP true _ _ (Bytes.takeBufferQuiet? "bytearray.extend" (.bytes x t) 0>>=fun _=>_) _ _
 rw[quiet_eq]
 refine aj (ay ?_)
 have fin:wpP true (model pw w) A.in1 (Bytes.write (.ref a) (· ++x)>>=fun _=>ret Value.none) (fun fin s'=>match fin with| .done f=>rI Q (.ok f) s'| .again c'=>c'.quiet=true∧rH c'=true∧cV true (model pw w) A c' (rI Q) s') ⟨hp,g,d,tk,os⟩:=by
  refine aT (write h hz fun h'=> ?_)
  exact ay (hq h')
 show wpP true _ _ (if(!x.isEmpty)=true then(Bytes.checkResize (.ref a)>>=fun _=>(Bytes.write (.ref a) (· ++x)>>=fun _=>ret Value.none))else(Bytes.write (.ref a) (· ++x)>>=fun _=>ret Value.none)) _ _
 refine yz ?_
 split
 ·exact aj (checkResize (A:=A.in1) h (show A.in1.guards=some []from hg) fin)
 ·exact fin
end
section
variable{w:World}{A:Around}{E:Value→Shared→Prop}{s:Shared}{a:Addr}{b:Array UInt8}
theorem len{Q:Value→Shared→Prop}(h:Barr s.heap a b)(hz:b.size≤1000000)(hq: ∀t k,Q (.int b.size t) {s with toks:=k}):wpAny (model pw w) A (call (.builtin "len") [.ref a]) Q E s:=by
 refine Calls.call_function_entry kind_len plain_len entry_len (args_len1 _) ?_
 unfold Builtin.«len»
 refine wpAny_bind (m:=oneArg "len" _) (wpAny_pure ?_)
 refine wpAny_bind (m:=callSpecial? (.ref a) (Str.ofString "__len__")) (wpAny_callSpecial?_slot (name:=Str.ofString "__len__") h.typeIs slot_blen
  (wpAny_call_entry slot_blen h.typeIs entry_blen ?_ (args_blen _)))
 ·show wpAny _ _ (Bytes.payload (.ref a)>>=fun r=>retInt r.size) _ _ s
  refine wpAny_bind (payload h ?_)
  refine wpAny_bind (wpAny_mkInt (wpAny_pure ⟨_,rfl,?_⟩))
  refine wpAny_bind (wpAny_holding (wpAny_pure ?_))
  refine wpAny_bind (wpAny_letGo ?_)
  show wpAny _ _ (if((b.size:Nat):Int)<0 then _ else _) _ _ _
  rw[if_neg Il]
  show wpAny _ _ (if((b.size:Nat):Int)≥2 ^ 63 then _ else _) _ _ _
  rw[if_neg (Int.not_le.mpr (Br (by assumption)))]
  exact wpAny_bind (wpAny_mkInt (wpAny_pure ⟨_,rfl,hq _ _⟩))
theorem slice{o:Addr}{l u:Value}{lo hi:Option Int}{Q:Value→Shared→Prop}(h:Barr s.heap a b)(ho:s.heap.IsSliceOf o l u .none)(hl:IsPart l lo)(hu:IsPart u hi)(hz:(KBy.picked b lo hi).size≤sizeLine)
  (hq:Q (.ref s.heap.objs.size) {s with heap:=s.heap.push {cls:= .type "bytearray",data:= .bytearray (KBy.picked b lo hi) 0}}):wpAny (model pw w) A (getItem (.ref a) (.ref o)) Q E s:=by
 obtain⟨oo,hoo,hc,hd⟩:=ho
 have hT:s.TypeIs (.ref o) "slice" :=⟨oo,hoo,hc⟩
 refine wpAny_getItem_slot h.typeIs (by decide) slot_getitem (wpAny_call_entry slot_getitem h.typeIs entry_getitem ?_ (args_getitem _ _))
 unfold Builtin.«bytearray.__getitem__»
 show wpAny _ _ (Bytes.subscript? (.ref o)>>=fun r=>_) _ _ s
 refine wpAny_bind ?_
 unfold Bytes.subscript?
 refine wpAny_bind (wpAny_specialOf hT slice_no_index (wpAny_pure ?_))
 refine wpAny_bind (wpAny_typeOf hT ?_)
 show wpAny _ _ (Bytes.sliceParts (.ref o)>>=fun r=>_) _ _ s
 refine wpAny_bind ?_
 unfold Bytes.sliceParts
 refine wpAny_bind (wpAny_field (x:= .none) hoo hd rfl ?_)
 kby_none
 refine wpAny_ite (KBy.ite_no (show¬((Value.none==rawInt 0)=true)from Bool.false_ne_true) ?_)
 refine wpAny_bind (wpAny_field (x:=l) hoo hd rfl ?_)
 have go: ∀A',wpAny (model pw w) A' (sliceIndices (rawPart lo) (rawPart hi) (rawPart none) b.size) (fun r s'=>r=sliceBounds lo hi none b.size∧s'=s) (fun _ _=>False) s:=
  fun A'=>wpAny_of_eq (sliceIndices_raw lo hi none b.size (fun e=>nomatch e)) ⟨rfl,rfl⟩
 cases hl<;>cases hu<;>(first
  |(kby_none;(refine wpAny_bind (wpAny_field (x:= .none) hoo hd rfl ?_));kby_none)
  |(kby_none;(refine wpAny_bind (wpAny_field (x:= .int _ _) hoo hd rfl ?_));kby_int)
  |(kby_int;(refine wpAny_bind (wpAny_field (x:= .none) hoo hd rfl ?_));kby_none)
  |(kby_int;(refine wpAny_bind (wpAny_field (x:= .int _ _) hoo hd rfl ?_));kby_int))<;>refine wpAny_pure ?_
 all_goals
  refine wpAny_bind (payload h ?_)
  refine wpAny_bind (wpAny_mono (go _) (fun r s' hr=> ?_) fun _ _ e=>e.elim)
  obtain⟨hr1,hr2⟩:=hr
  subst hr1 hr2
  refine wpAny_bind ?_
  unfold Bytes.newBytearray
  exact wpAny_newObj_type (wpAny_pure ⟨_,rfl,hq⟩) hz
theorem bytes_bytes{t:Tok}{Q:Value→Shared→Prop}(hq:Q (.bytes b t) s):wpAny (model pw w) A (call (.type "bytes") [.bytes b t]) Q E s:=by
 refine callType_codes (Q₁:=fun obj s₁=>s₁.TypeIs obj "bytes" ∧Q obj s₁) PySem.F.bm_called (PySem.F.bm_typeCall _) PySem.F.entry_object_init ?_ fun obj s₁ h₁=> ?_
 ·refine codeAny_of_tree ?_
  show wpAny _ A.in1.in1 (do checkBuiltinCall "bytes.__new__" ⟨[.type "bytes",.bytes b t],[]⟩;again (.builtin "bytes.__new__" ⟨[.type "bytes",.bytes b t],[]⟩)) _ _ s
  refine wpAny_bind (wpAny_of_eq (PySem.F.bm_newCall _) (wpAny_pure ⟨plainId_quiet PySem.F.bm_plain _,codeAny_builtin PySem.F.bm_entry ?_⟩))
  rw[Around.under_plainId PySem.F.bm_plain _]
  unfold Builtin.«bytes.__new__»
  refine wpAny_bind (wpAny_of_eq (a:=true) rfl ?_)
  refine bm_if_false rfl ?_
  refine wpAny_bind (wpAny_of_eq PySem.F.bm_sub ?_)
  refine bm_if_false rfl ?_
  refine wpAny_bind (wpAny_of_eq (PySem.F.bm_bind _) ?_)
  refine wpAny_bind (wpAny_of_eq (a:=()) rfl ?_)
  refine wpAny_bind (wpAny_of_eq (a:=()) rfl ?_)
  refine bm_if_false rfl ?_
  refine wpAny_bind (wpAny_of_eq (KBy.special_eq bbytes) ?_)
  show wpAny _ _ (rule _>>=fun _=>_) _ _ _
  refine wpAny_bind (wpAny_rule ?_)
  refine wpAny_bind (wpAny_typeOf (PySem.W.typeIs_bytes _ _ _) ?_)
  refine bm_if_true (by decide) ?_
  exact wpAny_pure ⟨PySem.W.typeIs_bytes _ _ _,hq⟩
 ·exact⟨h₁.1,PySem.F.args_object_init_2 obj _,object_init_meets PySem.F.bm_called.init.lookup PySem.F.bm_called.made (by decide) pw w A.in1 _ s₁ ⟨h₁.1,rfl,h₁.2⟩⟩
theorem bytes_barr{Q:Value→Shared→Prop}(h:Barr s.heap a b)(hz:b.size≤sizeLine)(hq: ∀t k,Q (.bytes b t) {s with toks:=k}):wpAny (model pw w) A (call (.type "bytes") [.ref a]) Q E s:=by
 refine callType_codes (Q₁:=fun obj s₁=>s₁.TypeIs obj "bytes" ∧Q obj s₁) PySem.F.bm_called (PySem.F.bm_typeCall _) PySem.F.entry_object_init ?_ fun obj s₁ h₁=> ?_
 ·refine codeAny_of_tree ?_
  show wpAny _ A.in1.in1 (do checkBuiltinCall "bytes.__new__" ⟨[.type "bytes",.ref a],[]⟩;again (.builtin "bytes.__new__" ⟨[.type "bytes",.ref a],[]⟩)) _ _ s
  refine wpAny_bind (wpAny_of_eq (PySem.F.bm_newCall _) (wpAny_pure ⟨plainId_quiet PySem.F.bm_plain _,codeAny_builtin PySem.F.bm_entry ?_⟩))
  rw[Around.under_plainId PySem.F.bm_plain _]
  unfold Builtin.«bytes.__new__»
  refine wpAny_bind (wpAny_of_eq (a:=true) rfl ?_)
  refine bm_if_false rfl ?_
  refine wpAny_bind (wpAny_of_eq PySem.F.bm_sub ?_)
  refine bm_if_false rfl ?_
  refine wpAny_bind (wpAny_of_eq (PySem.F.bm_bind _) ?_)
  refine wpAny_bind (wpAny_of_eq (a:=()) rfl ?_)
  refine wpAny_bind (wpAny_of_eq (a:=()) rfl ?_)
  refine bm_if_false rfl ?_
  refine wpAny_bind (wpAny_specialOf h.typeIs nobytes ?_)
  refine wpAny_bind (wpAny_bind ?_)
  show wpAny _ _ (load a>>=_) _ _ _
  refine wpAny_bind (wpAny_load h ?_)
  refine wpAny_pure (wpAny_pure ?_)
  refine bm_if_false rfl ?_
  refine wpAny_bind (wpAny_specialOf h.typeIs noindex ?_)
  refine bm_if_true rfl ?_
  first
   |show wpAny _ _ (Builtin.Bytes.buffer? "bytes.__new__" (.ref a) true>>=_) _ _ _
   |(refine wpAny_bind ?_;show wpAny _ _ (Builtin.Bytes.buffer? "bytes.__new__" (.ref a) true>>=_) _ _ _)
  refine wpAny_bind (buffer? h ?_)
  show wpAny _ _ (rule _>>=fun _=>_) _ _ _
  refine wpAny_bind (wpAny_rule ?_)
  refine wpAny_bind (wpAny_mkBytes ?_ hz)
  refine bm_if_true (by decide) ?_
  exact wpAny_pure ⟨PySem.W.typeIs_bytes _ _ _,hq _ _⟩
 ·exact⟨h₁.1,PySem.F.args_object_init_2 obj _,object_init_meets PySem.F.bm_called.init.lookup PySem.F.bm_called.made (by decide) pw w A.in1 _ s₁ ⟨h₁.1,rfl,h₁.2⟩⟩
theorem rng_nobytes:typeLookup (.type "range") "__bytes__" =pure none:=by rw[typeLookup_type,builtinLookup_eq_fast];kernel_rfl
theorem rng_noindex:typeLookup (.type "range") "__index__" =pure none:=by rw[typeLookup_type,builtinLookup_eq_fast];kernel_rfl
theorem rng_nobuffer:typeLookup (.type "range") "__buffer__" =pure none:=by rw[typeLookup_type,builtinLookup_eq_fast];kernel_rfl
theorem rng_split:splitId "range.__len__" =some ("range","__len__"):=by decide+kernel
theorem rng_sub:isSubtype (.type "range") (.type "range")=pure true:=by rw[isSubtype_type];kernel_rfl
noncomputable def upTo(x:Nat):Nat→Array UInt8
 |0=> #[]
 |n+1=>(upTo x n).push (UInt8.ofNat (x+n))
theorem upTo_size(x n:Nat):(upTo x n).size=n:=by induction n with|zero=>rfl|succ n ih=>rw[upTo,Array.size_push,ih]
theorem rng_loop{R:Result→Shared→Prop}{I S:Addr}{x n:Nat}(hh:A.handled=none)(hr:x+n≤256)(hIS:I≠S):
  ∀(k i:Nat)(s:Shared),n - i=k→i≤n→IsRangeIter s.heap I ((x:Int)+i) ((n:Int) - i) 1→Barr s.heap S (upTo x i)→
   (∀h' t k',(∀b o,b≠I→b≠S→s.heap.get? b=some o→h'.get? b=some o)→R (.ok (.ret (.bytes (upTo x n) t))) {s with heap:=h',toks:=k'})→
   codeAny (model pw w) A (.builtin "bytes.__new__.loop" ⟨[.type "bytes",.ref I,.ref S],[]⟩) R s:=by
 intro k
 induction k with
 |zero=>
  intro i s hk hle hit hS hR
  have hin:i=n:=Nat.le_antisymm hle (Nat.sub_eq_zero_iff_le.mp hk)
  subst hin
  refine codeAny_builtin PySem.F.bm_entry_loop ?_
  rw[Around.under_plainId PySem.F.bm_plain_loop _]
  show wpAny _ A.in1 (pyNext (.ref I)>>=_) _ _ s
  refine wpAny_bind (wpAny_pyNext_range_end hh hit (Int.le_of_eq (Int.sub_self _)) fun h' he=> ?_)
  have hS':Barr h' S (upTo x i):=he S _ (Ne.symm hIS) hS
  refine wpAny_bind (payload (s:={s with heap:=h'}) hS' ?_)
  refine wpAny_bind (wpAny_mkBytes ?_ (by rw[upTo_size,sizeLine_eq];exact gV (Nat.le_trans (Nat.le_add_left _ x) (Nat.le_trans hr (by decide)))))
  show wpAny _ _ (if(Value.type "bytes" ==Value.type "bytes")=true then _ else _) _ _ _
  refine bm_if_true (by decide) ?_
  first
   |exact wpAny_pure (hR h' _ _ fun b o hb _ e=>he b o hb e)
   |exact wpAny_bind (wpAny_pure (wpAny_pure (hR h' _ _ fun b o hb _ e=>he b o hb e)))
 |succ k ih=>
  intro i s hk hle hit hS hR
  have hlt:i<n:=Nat.lt_of_sub_eq_succ hk
  refine codeAny_builtin PySem.F.bm_entry_loop ?_
  rw[Around.under_plainId PySem.F.bm_plain_loop _]
  show wpAny _ A.in1 (pyNext (.ref I)>>=_) _ _ s
  refine wpAny_bind (wpAny_pyNext_range_item hit (Int.sub_pos_of_lt (Int.ofNat_lt.mpr hlt)) fun h' hit' hs=> ?_)
  have hS':Barr h' S (upTo x i):=(hs.2 S (Ne.symm hIS)).trans hS
  refine wpAny_bind (wpAny_holding (wpAny_of_eq (rfl:asIndex (.int ((x:Int)+i) s.toks)=pure ((x:Int)+i)) ?_))
  refine wpAny_bind (wpAny_letGo ?_)
  refine bm_if_false (by simp only[Bool.or_eq_false_iff,decide_eq_false_iff_not];exact⟨Int.not_lt.mpr (Int.natCast_nonneg (x+i)),Int.not_le.mpr (Int.ofNat_lt.mpr (Nat.lt_of_lt_of_le (Nat.add_lt_add_left hlt x) hr))⟩) ?_
  have e:upTo x (i+1)=(upTo x i).push ((x:Int)+i).toNat.toUInt8:=by
   rw[upTo]
   congr 1
  refine wpAny_bind (write (s:={s with heap:=h',toks:=s.toks+1}) (f:=(·.push ((x:Int)+i).toNat.toUInt8)) hS' (by rw[Array.size_push,upTo_size,sizeLine_eq];exact gV (Nat.le_trans hlt (Nat.le_trans (Nat.le_add_left n x) (Nat.le_trans hr (by decide))))) fun hS₂=> ?_)
  have hs₂:=Heap.SameBut.update (h:=h') (a:=S) (f:=Obj.mapBytearray (·.push ((x:Int)+i).toNat.toUInt8))
  refine wpAny_pure ⟨plainId_quiet PySem.F.bm_plain_loop _,ih (i+1) _ ((Nat.sub_sub n i 1).symm.trans (congrArg (· - 1) hk)) hlt ?_ (by rw[e];exact hS₂) fun h3 t' k' hk3=> ?_⟩
  ·have q:=(hs₂.2 I hIS).trans hit'
   have e1:(x:Int)+i+1=(x:Int)+(i+1:Nat):=DR
   have e2:(n:Int) - i - 1=(n:Int) - (i+1:Nat):=DS
   rw[e1,e2]at q
   exact q
  ·exact hR h3 t' k' fun b o hbI hbS e=>hk3 b o hbI hbS ((hs₂.2 b hbS).trans (hs.extBut b o hbI e))
theorem rng_size{x c:Nat}(hx:x≤c):Builtin.Range.rangeSize (x:Int) c 1=((c - x:Nat):Int):=by
 rw[rangeSize_one]
 split
 ·exact(Int.ofNat_sub hx).symm
 ·rw[Nat.sub_eq_zero_of_le (Int.ofNat_le.mp (Int.not_lt.mp ‹_›))];rfl
theorem rng_hint{r:Addr}{x c:Nat}{t u v:Tok}{Q:Unit→Shared→Prop}(hr:IsRange s.heap r x c 1 t u v)(hx:x≤c)(hc:c≤256)(hq:Q () {s with toks:=s.toks+1+1}):
  wpAny (model pw w) A (Bytes.lengthHint "bytes.__new__" (.ref r)) Q E s:=by
 have hn:=rng_size hx
 unfold Bytes.lengthHint
 refine wpAny_bind (wpAny_specialOf ⟨_,hr,rfl⟩ PySem.F.slot_range_len.lookup ?_)
 dsimp only
 rw[rng_split]
 dsimp only
 refine wpAny_bind (wpAny_isInstance (T:= "range") (b:=true) ⟨_,hr,rfl⟩ rng_sub ?_)
 refine bm_if_false rfl ?_
 refine bm_if_false (by decide+kernel) ?_
 refine bm_if_true rfl ?_
 refine wpAny_bind (wpAny_rule ?_)
 refine wpAny_bind (wpAny_attempt (call_len_range hr hn (Br (Nat.le_trans (Nat.sub_le c x) (Nat.le_trans hc (by decide)))) ?_))
 have htl:Bytes.tooLong (((c - x:Nat):Int).toNat)=false:=by
  unfold Bytes.tooLong
  rw[sizeLine_eq]
  exact decide_eq_false (Nat.not_lt.mpr (gV (Nat.le_trans (Nat.sub_le c x) (Nat.le_trans hc (by decide)))))
 dsimp only
 refine wpAny_bind (m:=asInt? _) (wpAny_pure ?_)
 exact bm_if_false htl (wpAny_pure hq)
theorem rng_new{r:Addr}{x c:Nat}{t u v:Tok}{Q:Value→Shared→Prop}(hh:A.handled=none)(hr:IsRange s.heap r x c 1 t u v)(hx:x≤c)(hc:c≤256)
  (hQ: ∀h' t k,(∀b o,s.heap.get? b=some o→h'.get? b=some o)→Q (.bytes (upTo x (c - x)) t) {s with heap:=h',toks:=k}):
  codeAny (model pw w) A (.call (.builtin "bytes.__new__") ⟨[.type "bytes",.ref r],[]⟩) (wants Q E) s:=by
 refine codeAny_of_tree ?_
 show wpAny _ A.in1 (do checkBuiltinCall "bytes.__new__" ⟨[.type "bytes",.ref r],[]⟩;again (.builtin "bytes.__new__" ⟨[.type "bytes",.ref r],[]⟩)) _ _ s
 refine wpAny_bind (wpAny_of_eq (PySem.F.bm_newCall _) (wpAny_pure ⟨plainId_quiet PySem.F.bm_plain _,codeAny_builtin PySem.F.bm_entry ?_⟩))
 rw[Around.under_plainId PySem.F.bm_plain _]
 have hT:s.TypeIs (.ref r) "range" :=⟨_,hr,rfl⟩
 unfold Builtin.«bytes.__new__»
 refine wpAny_bind (wpAny_of_eq (a:=true) rfl ?_)
 refine bm_if_false rfl ?_
 refine wpAny_bind (wpAny_of_eq PySem.F.bm_sub ?_)
 refine bm_if_false rfl ?_
 refine wpAny_bind (wpAny_of_eq (PySem.F.bm_bind _) ?_)
 refine wpAny_bind (wpAny_of_eq (a:=()) rfl ?_)
 refine wpAny_bind (wpAny_of_eq (a:=()) rfl ?_)
 refine bm_if_false rfl ?_
 refine wpAny_bind (wpAny_specialOf hT rng_nobytes ?_)
 refine wpAny_bind (wpAny_bind ?_)
 show wpAny _ _ (load r>>=_) _ _ _
 refine wpAny_bind (wpAny_load hr ?_)
 refine wpAny_pure (wpAny_pure ?_)
 refine bm_if_false rfl ?_
 refine wpAny_bind (wpAny_specialOf hT rng_noindex ?_)
 refine bm_if_true rfl ?_
 first
  |show wpAny _ _ (Builtin.Bytes.buffer? "bytes.__new__" (.ref r) true>>=_) _ _ _
  |(refine wpAny_bind ?_;show wpAny _ _ (Builtin.Bytes.buffer? "bytes.__new__" (.ref r) true>>=_) _ _ _)
 refine wpAny_bind ?_
 unfold Builtin.Bytes.buffer?
 refine wpAny_bind (wpAny_specialOf hT rng_nobuffer ?_)
 refine wpAny_bind (wpAny_specialOf hT rng_nobuffer ?_)
 refine wpAny_pure ?_
 refine wpAny_bind (wpAny_tryCatch (wpAny_pyIter_range hr (small_one DL (DM (Nat.le_trans hx hc)) DL (DM hc)) ?_))
 have hr₁:IsRange (s.heap.push {cls:= .type "range_iterator",data:= .fields #[rawInt x,rawInt (Builtin.Range.rangeSize x c 1),rawInt 1]}) r x c 1 t u v:=Heap.get?_push_of_some _ hr
 refine wpAny_bind (wpAny_holding (rng_hint hr₁ hx hc ?_))
 refine wpAny_bind ?_
 unfold Builtin.Bytes.newBytearray
 refine wpAny_newObj_type ?_ (Nat.zero_le _)
 have hI:IsRangeIter ((s.heap.push {cls:= .type "range_iterator",data:= .fields #[rawInt x,rawInt (Builtin.Range.rangeSize x c 1),rawInt 1]}).push {cls:= .type "bytearray",data:= .bytearray #[]}) s.heap.objs.size ((x:Int)+(0:Nat)) (((c - x:Nat):Int) - (0:Nat)) 1:=by
  have q:=Heap.get?_push_of_some {cls:= .type "bytearray",data:= .bytearray #[]} (Heap.get?_push_size s.heap (o:={cls:= .type "range_iterator",data:= .fields #[rawInt x,rawInt (Builtin.Range.rangeSize x c 1),rawInt 1]}) rfl)
  have e1:(((c - x:Nat):Int) - (0:Nat))=Builtin.Range.rangeSize x c 1:=by rw[rng_size hx];simp
  have e2:(x:Int)+(0:Nat)=x:=by simp
  rw[e1,e2]
  exact q
 have hsz:(s.heap.push {cls:= .type "range_iterator",data:= .fields #[rawInt x,rawInt (Builtin.Range.rangeSize x c 1),rawInt 1]}).objs.size=s.heap.objs.size+1:=Heap.size_push _ _
 have main:=rng_loop (w:=w) (A:=A) (R:=wants Q E) (I:=s.heap.objs.size) (S:=(s.heap.push {cls:= .type "range_iterator",data:= .fields #[rawInt x,rawInt (Builtin.Range.rangeSize x c 1),rawInt 1]}).objs.size) (x:=x) (n:=c - x) hh (by rw[Nat.add_sub_of_le hx];exact hc) (by rw[hsz];exact Nat.ne_of_lt (Nat.lt_succ_self _))
  (c - x) 0 {s with heap:=(s.heap.push {cls:= .type "range_iterator",data:= .fields #[rawInt x,rawInt (Builtin.Range.rangeSize x c 1),rawInt 1]}).push {cls:= .type "bytearray",data:= .bytearray #[]},toks:=s.toks+1+1} rfl (Nat.zero_le _) hI (Heap.get?_push_size _ rfl)
  fun h' t k hk=>hQ h' t k fun b o e=>hk b o (Nat.ne_of_lt (Heap.lt_size e)) (by rw[hsz];exact Nat.ne_of_lt (Nat.lt_succ_of_lt (Heap.lt_size e))) (Heap.get?_push_of_some _ (Heap.get?_push_of_some _ e))
 first
  |exact wpAny_pure ⟨plainId_quiet PySem.F.bm_plain_loop _,main⟩
  |exact wpAny_pure (wpAny_pure ⟨plainId_quiet PySem.F.bm_plain_loop _,main⟩)
theorem bytes_range{r:Addr}{x c:Nat}{t u v:Tok}{Q:Value→Shared→Prop}(hh:A.handled=none)(hr:IsRange s.heap r x c 1 t u v)(hx:x≤c)(hc:c≤256)
  (hQ: ∀h' t k,(∀b o,s.heap.get? b=some o→h'.get? b=some o)→Q (.bytes (upTo x (c - x)) t) {s with heap:=h',toks:=k}):wpAny (model pw w) A (call (.type "bytes") [.ref r]) Q E s:=by
 refine callType_codes (Q₁:=fun obj s₁=>s₁.TypeIs obj "bytes" ∧Q obj s₁) PySem.F.bm_called (PySem.F.bm_typeCall _) PySem.F.entry_object_init
  (rng_new (A:=A.in1) hh hr hx hc fun h' t k hk=>⟨PySem.W.typeIs_bytes _ _ _,hQ h' t k hk⟩) fun obj s₁ h₁=> ?_
 exact⟨h₁.1,PySem.F.args_object_init_2 obj _,object_init_meets PySem.F.bm_called.init.lookup PySem.F.bm_called.made (by decide) pw w A.in1 _ s₁ ⟨h₁.1,rfl,h₁.2⟩⟩
end
end Mine.Internal.B
end
section
namespace Mine.Internal
open PySem PySem.Spec PySem.Calls PyProof.Rows PySem.W PySem.SeqAt
section
variable{w:World}{base h₀ h h':Heap}{L:Addr}{m:Str→Option Value}{news:Led}{ρ:Nat→Addr}{H:HH}{A:Around}{s:Shared}{E:Value→Shared→Prop}
theorem G5 (y:Int):(max 0 y).toNat=y.toNat:=by
 by_cases h:0≤y
 ·rw[Int.max_eq_right h]
 ·rw[Int.max_eq_left (by omega)];exact(Int.toNat_of_nonpos (by omega)).symm
theorem gY(n:Nat)(x:Int):clipAt n x=cw n x:=by
 unfold clipAt cw
 rw[G5]
 by_cases h:x<0
 ·rw[if_pos h,if_pos h,Int.min_eq_left (by omega)]
 ·rw[if_neg h,if_neg h]
  by_cases g:x≤n
  ·rw[Int.min_eq_left g,Nat.min_eq_left (by omega)]
  ·rw[Int.min_eq_right (by omega),Nat.min_eq_right (by omega)];rfl
theorem iC{v:MV}{o:Option Int}(e:AW v=some o){N:Nat}{V:Value}(hv:aY base ρ N news v V):IsPart V o:=by
 cases v with
 |none=>rw[←Option.some.inj e,hv.noneInv];exact .none
 |int i=>obtain⟨t,hv⟩:=hv.intInv;rw[←Option.some.inj e,hv];exact .int _ _
 |_=>exact aV e
theorem kx{α:Type}{b r:List α}{lo hi:MV}(h:mN b lo hi=some r):dk fun l u=>bx (AW lo=some l) (AW hi=some u) ((l.elim (u.elim b fun x=>b.take (cw b.length x)) fun y=>(u.elim b fun x=>b.take (cw b.length x)).drop (cw b.length y))=r):=by
 unfold mN at h
 cases p:AW lo with
 |none=>rw[p]at h;exact aV h
 |some l=>
  rw[p]at h
  dsimp only at h
  cases q:AW hi with
  |none=>rw[q]at h;exact aV h
  |some u=>
   rw[q]at h
   refine⟨l,u,rfl,rfl,?_⟩
   rw[←Option.some.inj h]
   cases l<;>cases u<;>rfl
theorem lW{b r:List UInt8}{l u:Option Int}(h:(l.elim (u.elim b fun x=>b.take (cw b.length x)) fun y=>(u.elim b fun x=>b.take (cw b.length x)).drop (cw b.length y))=r):
  KBy.picked b.toArray l u=r.toArray∧r.length≤b.length:=by
 rw[KBc.picked_eq,List.size_toArray]
 subst h
 cases l with
 |none=>
  cases u with
  |none=>simp only[Option.elim];exact⟨by simp,Nat.le_refl _⟩
  |some j=>simp only[Option.elim,gY];exact⟨by simp,by rw[List.length_take];exact Nat.min_le_right _ _⟩
 |some i=>
  cases u with
  |none=>simp only[Option.elim,gY];exact⟨by rw[List.take_of_length_le (by simp)],by rw[List.length_drop];exact Nat.sub_le _ _⟩
  |some j=>simp only[Option.elim,gY];exact⟨by rw[List.drop_take],by rw[List.length_drop,List.length_take];exact Nat.le_trans (Nat.sub_le _ _) (Nat.min_le_right _ _)⟩
theorem Ei{x lo hi v:MV}{H':HH}(e:dX x lo hi H=some (v,H')){X l u:Value}{Q:Value→Shared→Prop}{value slice:Expr}
  (R:Rel pw w base h₀ L s.heap m news ρ H)(hx:aY base ρ H.length news x X)(hl:aY base ρ H.length news lo l)(hu:aY base ρ H.length news hi u)(P:bh pw w base h₀ L m ρ news H s v H' Q)
  (hs:subscripted slice false X (.ref s.heap.objs.size)=operate [.ref s.heap.objs.size,X] (getItem X (.ref s.heap.objs.size))):
  wpAny (model pw w) A (subscriptTail value slice X (.ref s.heap.objs.size)) Q E {s with heap:=s.heap.push {cls:= .type "slice",data:= .fields #[l,u,.none]}}:=by
 cases x with
 |bytes b=>
  obtain⟨hz,e⟩:=aO e
  have hz:=Nat.le_of_ble_eq_true hz
  obtain⟨r,hr,e⟩:=Option.map_eq_some_iff.mp e
  obtain⟨lo',hi',p1,p2,hr⟩:=kx hr
  obtain⟨hp,hn⟩:=lW hr
  obtain⟨t,hx⟩:=hx.bytesInv
  rw[hx]at hs⊢
  refine tail_any (typeIs_bytes _ _ _) FB.slot_bytes_getitem.lookup (getItem_meets (typeIs_bytes _ _ _) (by decide) FB.slot_bytes_getitem FB.entry_bytes_getitem (FB.args_bytes_getitem_2 _ _) (KBc.meets_slice2 b.toArray t _ (iC p1 hl) (iC p2 hu)) ⟨Heap.IsSliceOf.new _ _ _ _,?_,fun t' k=> ?_⟩) hs
  ·rw[hp,List.size_toArray,sizeLine_eq];exact gV (Nat.le_trans (by assumption) (by assumption))
  ·rw[hp]
   exact(P.at (congrArg some e)) ρ news _ _ k (R.keeps fun b o e=>Heap.get?_push_of_some _ e) .refl (.bytes _ _)
 |ref n=>
  unfold dX at e
  dsimp only at e
  cases q:barrAt H n with
  |none=>rw[q]at e;exact aV e
  |some b=>
   rw[q]at e
   obtain⟨r,hr,e⟩:=Option.map_eq_some_iff.mp e
   obtain⟨q,hz⟩:=kj q
   obtain⟨lo',hi',p1,p2,hr⟩:=kx hr
   obtain⟨hp,hn⟩:=lW hr
   have g1:=(R.N _ (R.barrAt q)).1
   have R':=R.keeps fun b o e=>Heap.get?_push_of_some (Obj.mk (.type "slice") none (.fields #[l,u,.none]) #[]) e
   have g2:B.Barr (s.heap.push (Obj.mk (.type "slice") none (.fields #[l,u,.none]) #[])) (ρ n) b.toArray:=Heap.get?_push_of_some _ g1
   rw[hx.refInv.1]at hs⊢
   refine tail_any (B.Barr.typeIs (s:={s with heap:=s.heap.push _}) g2) B.slot_getitem.lookup (B.slice (s:={s with heap:=s.heap.push _}) g2 (Heap.IsSliceOf.new _ _ _ _) (iC p1 hl) (iC p2 hu) ?_ ?_) hs
   ·rw[hp,List.size_toArray,sizeLine_eq];exact gV (Nat.le_trans (by assumption) (by assumption))
   ·rw[hp]
    exact bh.alloc (s:={s with heap:=s.heap.push _}) R' (P.at (congrArg some e)) (R'.F.push _) (R'.N.push R'.F _) (fun p hp=>Heap.lt_size (R'.N p hp).1) (.barr r) s.toks
 |_=>exact aV e
theorem yB(a n:Nat):B.upTo a n=(dD a n).toArray:=by
 have key: ∀n a,dD a (n+1)=dD a n++[UInt8.ofNat (a+n)]:=by
  intro n
  induction n with
  |zero=>intro a;rfl
  |succ n ih=>
   intro a
   show UInt8.ofNat a::dD (a+1) (n+1)=UInt8.ofNat a::dD (a+1) n++_
   rw[ih (a+1),show a+1+n=a+(n+1)from Nat.add_right_comm a 1 n]
   rfl
 induction n with
 |zero=>rfl
 |succ n ih=>rw[B.upTo,ih,key,List.push_toArray]
theorem BE{fl:Bool}{x:MV}{n:Nat}(e:iZ x H=some n)(hz:n≤1000000){X:Value}{Q:Value→Shared→Prop}(kin: ∀a Vs,base.IsList a Vs→s.heap.IsList a Vs)(R:Rel pw w base h₀ L s.heap m news ρ H)
  (hx:aY base ρ H.length news x X)(P:bh pw w base h₀ L m ρ news H s (.int n) H Q):wpP fl (model pw w) A (call (.builtin "len") [X]) Q s:=by
 have lst: ∀{xs:List MV}{D:Addr}{Vs:List Value},s.heap.IsList D Vs.toArray→br base ρ H.length news xs Vs→xs.length=n→wpP fl (model pw w) A (call (.builtin "len") [.ref D]) Q s:=fun{xs D Vs} hl r q=>by
  have hz':Vs.toArray.size=n:=by rw[List.size_toArray,r.length];exact q
  refine aL (call_len_list hl (by rw[hz'];exact Br (by assumption)) ?_)
  rw[hz']
  exact P.now R (.int _ _) _
 cases x with
 |bytes b=>
  obtain⟨t,hx⟩:=hx.bytesInv
  have hz':b.toArray.size=n:=by rw[List.size_toArray];exact Option.some.inj e
  rw[hx]
  refine aL (len_bytes (by rw[hz'];exact Nat.le_trans (by assumption:_≤1000000) (by decide)) ?_)
  rw[hz']
  exact P.now R (.int _ _) _
 |frz xs=>
  obtain⟨D,Vs,hx,l1,r1⟩:=hx.frzInv
  rw[hx]
  exact lst (kin _ _ l1) r1 (Option.some.inj e)
 |ref i=>
  rw[hx.refInv.1]
  unfold iZ at e
  dsimp only at e
  cases q:H[i]? with
  |none=>rw[q]at e;exact aV e
  |some c=>
   rw[q]at e
   cases c with
   |list xs=>
    obtain⟨Vs,k,m1,r1⟩:=R.listAt q
    exact lst (bZ R.N m1) r1 (Option.some.inj e)
   |barr b=>
    have hz':b.toArray.size=n:=by rw[List.size_toArray];exact Option.some.inj e
    refine aL (B.len (R.N _ (R.barrAt q)).1 (by rw[hz'];assumption) fun t k=> ?_)
    rw[hz']
    exact P.now R (.int _ _) _
   |_=>exact aV e
 |_=>exact aV e
theorem vo{fl:Bool}{x:MV}{b:List UInt8}(e:fA x H=some b){X:Value}{Q:Value→Shared→Prop}(hh:A.handled=none)(R:Rel pw w base h₀ L s.heap m news ρ H)
  (hx:aY base ρ H.length news x X)(P:bh pw w base h₀ L m ρ news H s (.bytes b) H Q):wpP fl (model pw w) A (call (.type "bytes") [X]) Q s:=by
 cases x with
 |bytes c=>
  obtain⟨t,hx⟩:=hx.bytesInv
  rw[hx,Option.some.inj e]
  exact aL (B.bytes_bytes (P.id R (.bytes _ _)))
 |ref i=>
  rw[hx.refInv.1]
  obtain⟨q,hz⟩:=kj e
  exact aL (B.bytes_barr (R.N _ (R.barrAt q)).1 (by rw[List.size_toArray,sizeLine_eq];exact gV (by assumption)) fun t k=>P.now R (.bytes _ _) _)
 |rng a c=>
  cases a with
  |ofNat a=>
   cases c with
   |ofNat c=>
    obtain⟨hc,e⟩:=aO e
    obtain⟨h1,h2⟩:=Bool.and_eq_true_iff.mp hc
    obtain⟨r,t,u,v,hx,m1,_⟩:=hx.rngInv
    rw[hx]
    refine aL (B.bytes_range hh (R.N _ m1).1 (Nat.le_of_ble_eq_true h1) (Nat.le_of_ble_eq_true h2) fun h' t k hk=> ?_)
    rw[yB,Option.some.inj e]
    exact P ρ news _ _ _ (R.keeps hk) .refl (.bytes _ _)
   |negSucc c=>exact aV e
  |negSucc a=>exact aV e
 |_=>exact aV e
theorem yC{Q:Value→Shared→Prop}(hg:A.guards=some [])(R:Rel pw w base h₀ L s.heap m news ρ H)(P:bh pw w base h₀ L m ρ news H s (.ref H.length) (H++[.barr []]) Q):wpP true (model pw w) A (call (.type "bytearray") []) Q s:=by
 refine B.make hg fun h' a ha hB hs hk ho=> ?_
 have N':News h₀ L h' ((a,⟨.type "bytearray",none,.bytearray #[] 0,#[]⟩)::news):=fun p hp=>by
  rcases List.mem_cons.mp hp with e|hp
  ·rw[e]
   refine⟨hB,?_,?_⟩
   ·rw[show(a,(⟨.type "bytearray",none,.bytearray #[] 0,#[]⟩:Obj)).1=s.heap.objs.size from ha];exact Nat.ne_of_gt R.F.ns.lt
   ·cases q:h₀.get? a with
    |none=>rfl
    |some o=>exact absurd (ha▸Heap.lt_size (R.F.keep _ _ q)) (Nat.lt_irrefl _)
  ·exact(R.N.grown hk) p hp
 exact P.alloc R (R.F.keeps hk) N' (fun p hp=>ha▸Heap.lt_size (R.N p hp).1) (.barr []) _
theorem oE{a c:Int}{t u:Tok}{r:Addr}{h':Heap}{v:Tok}{Q:Value→Shared→Prop}(R:Rel pw w base h₀ L s.heap m news ρ H)(hr:r=s.heap.objs.size)(hh':h'=s.heap.push (fE a c 1 t u v))(P:bh pw w base h₀ L m ρ news H s (.rng a c) H Q)(tk:Nat):
  Q (.ref r) {s with heap:=h',toks:=tk}:=by
 rw[hr,hh']
 obtain⟨R',x,f⟩:=R.loose (R.F.push _) (R.N.push R.F (fE a c 1 t u v)) (d7 R.N)
 exact P _ _ _ _ _ R' x (.rng (.head _) f)
theorem G6 {fl:Bool}{k:BK}{as:List MV}{v:MV}{H':HH}(e:cu fl k as H=some (v,H')){Vs:List Value}{Q:Value→Shared→Prop}(kin: ∀a Vs,base.IsList a Vs→s.heap.IsList a Vs)
  (hh:A.handled=none)(hg:A.guards=some [])(R:Rel pw w base h₀ L s.heap m news ρ H)(hx:br base ρ H.length news as Vs)(P:bh pw w base h₀ L m ρ news H s v H' Q):wpP fl (model pw w) A (call (Dy k) Vs) Q s:=by
 cases k with
 |len=>
  unfold cu at e
  dsimp only at e
  cases q:one as with
  |none=>rw[q]at e;exact aV e
  |some x=>
   rw[q]at e
   obtain⟨X,hX,hx⟩:=fk q hx
   dsimp only at e
   cases q2:iZ x H with
   |none=>rw[q2]at e;exact aV e
   |some n=>
    rw[q2]at e
    obtain⟨hz,e⟩:=aO e
    rw[hX]
    exact BE q2 (Nat.le_of_ble_eq_true hz) kin R hx (P.at e)
 |max=>
  obtain⟨x,y,X,Y,hX,hx,hy,e⟩:=kl e hx
  obtain⟨a,t,b,u,e1,e2,e⟩:=bY e hx hy
  rw[hX,e1,e2]
  exact aL (max_two_N hh R.F R.N fun h' tk F' N'=>(P.at e) ρ news _ _ _ (R.heap F' N') .refl (.int _ _))
 |min=>
  obtain⟨x,y,X,Y,hX,hx,hy,e⟩:=kl e hx
  obtain⟨a,t,b,u,e1,e2,e⟩:=bY e hx hy
  rw[hX,e1,e2]
  exact aL (min_two_N hh R.F R.N fun h' tk F' N'=>(P.at e) ρ news _ _ _ (R.heap F' N') .refl (.int _ _))
 |int=>
  unfold cu at e
  dsimp only at e
  cases q:one as with
  |none=>rw[q]at e;exact aV e
  |some x=>
   rw[q]at e
   obtain⟨X,hX,hx⟩:=fk q hx
   rw[hX]
   cases x with
   |int i=>obtain⟨t,hx⟩:=hx.intInv;rw[hx];exact aL (call_int_int (P.id_at e R (.int _ _)))
   |bool b=>rw[hx.boolInv];exact aL (call_int_bool (P.pure e R (.int _ _) _))
   |_=>exact aV e
 |bytes=>
  unfold cu at e
  dsimp only at e
  cases q:one as with
  |none=>rw[q]at e;exact aV e
  |some x=>
   rw[q]at e
   obtain⟨X,hX,hx⟩:=fk q hx
   dsimp only at e
   cases q2:fA x H with
   |none=>rw[q2]at e;exact aV e
   |some b=>rw[q2]at e;rw[hX];exact vo q2 hh R hx (P.at e)
 |range=>
  unfold cu at e
  dsimp only at e
  cases q:one as with
  |none=>
   rw[q]at e
   obtain⟨x,y,X,Y,hX,hx,hy,e⟩:=kl e hx
   obtain⟨a,t,b,u,e1,e2,e⟩:=bY e hx hy
   rw[hX,e1,e2]
   exact aL (call_range_2 (oE R rfl rfl (P.at (aO e).2) _))
  |some x=>
   rw[q]at e
   obtain⟨X,hX,hx⟩:=fk q hx
   rw[hX]
   cases x with
   |int i=>obtain⟨t,hx⟩:=hx.intInv;rw[hx];exact aL (call_range_1 (oE R rfl rfl (P.at (aO e).2) _))
   |_=>exact aV e
 |list=>
  unfold cu at e
  dsimp only at e
  cases q:one as with
  |none=>rw[q]at e;exact aV e
  |some x=>
   rw[q]at e
   obtain⟨X,hX,hx⟩:=fk q hx
   dsimp only at e
   cases q2:listAt H x with
   |none=>rw[q2]at e;exact aV e
   |some xs=>
    rw[q2]at e
    obtain⟨hz,e⟩:=aO e
    have hz:=Nat.le_of_ble_eq_true hz
    obtain⟨n,V1,n1,e1,m1,r1⟩:=en q2 R hx
    rw[←r1.length]at hz
    rw[hX,e1]
    exact aL (list_copyK R.F R.N (bZ R.N m1) (fun D c h' F' N' hl=>(P.at e).alloc R F' N' hl (.list c r1) _) (by rw[List.size_toArray,sizeLine_eq];exact gV (by assumption)))
 |barr=>
  cases as with
  |cons x r=>exact aV e
  |nil=>
   obtain⟨hf,e⟩:=aO e
   rw[hx.nilInv,hf]
   exact yC hg R (P.at e)
noncomputable def mid:Nat→String
 |0=> "list.append"
 |1=> "list.pop"
 |2=> "list.remove"
 |3=> "list.extend"
 |4=> "dict.pop"
 |_=> "bytearray.extend"
theorem BF{n c k:Nat}{o:MO}(hc:jv o k=some c)(h1:H[n]? =some o)(R:Rel pw w base h₀ L s.heap m news ρ H){pl:Sem Bool}{Q:Value×List Value→Shared→Prop}
  (h:Q (.builtin (mid c),[.ref (ρ n)]) s):wpAny (model pw w) A (getMethod (.ref (ρ n)) (nm k) pl) Q E s:=by
 cases o with
 |list xs=>
  obtain⟨hk,hc⟩:=aO hc
  rw[←Option.some.inj hc]at h
  match k,hk with
  |0,_=>exact cQ h1 R PySem.F.slot_list_append PySem.F.type_list_append h
  |1,_=>exact cQ h1 R PySem.F.slot_list_pop PySem.F.type_list_pop h
  |2,_=>exact cQ h1 R PySem.F.slot_list_remove PySem.F.type_list_remove h
  |3,_=>exact cQ h1 R PySem.F.slot_list_extend PySem.F.type_list_extend h
 |dictI es=>
  obtain⟨hk,hc⟩:=aO hc
  rw[←Option.some.inj hc]at h
  rw[Nat.eq_of_beq_eq_true hk]
  exact jb h1 R PySem.F.slot_dict_pop PySem.F.type_dict_pop h
 |barr b=>
  obtain⟨hk,hc⟩:=aO hc
  rw[←Option.some.inj hc]at h
  rw[Nat.eq_of_beq_eq_true hk]
  have g1:=(R.N _ (R.barrAt h1)).1
  exact getMethod_builtin (B.Barr.typeIs g1) B.plainAttrs B.slot_extend B.type_extend (fun a e=>by cases e;exact⟨_,g1,rfl⟩) h
 |_=>exact aV hc
theorem yD{fl:Bool}{n c:Nat}{xs:List MV}{x v:MV}{H':HH}(h1:H[n]? =some (.list xs))(e:ro c n xs x H=some (v,H')){X:Value}{Q:Value→Shared→Prop}
  (R:Rel pw w base h₀ L s.heap m news ρ H)(hx:aY base ρ H.length news x X)(P:bh pw w base h₀ L m ρ news H s v H' Q):wpP fl (model pw w) A (call (.builtin (mid c)) [.ref (ρ n),X]) Q s:=by
 match c,e with
 |0,e=>
  obtain⟨hz,e⟩:=aO e
  exact aL (vi h1 (Nat.le_of_ble_eq_true hz) R hx (P.at e))
 |1,e=>
  cases x with
  |int k=>
   unfold ro at e
   dsimp only at e
   cases q:decide (k=0)with
   |false=>rw[q]at e;exact aV e
   |true=>
    rw[q]at e
    cases xs with
    |nil=>exact aV e
    |cons y r=>
     obtain⟨hz,e⟩:=aO e
     obtain⟨t,hx⟩:=hx.intInv
     rw[hx,of_decide_eq_true q]
     exact aL (BD h1 (Nat.le_of_ble_eq_true hz) R (P.at e))
  |_=>exact aV e
 |2,e=>
  cases x with
  |int k=>
   obtain⟨hz,e⟩:=aO e
   obtain⟨hi,hz⟩:=Bool.and_eq_true_iff.mp hz
   cases q:gK k xs with
   |none=>rw[q]at e;exact aV e
   |some r=>
    rw[q]at e
    obtain⟨t,hx⟩:=hx.intInv
    rw[hx]
    exact aL (vj h1 hi (Nat.le_of_ble_eq_true hz) q R (P.at e))
  |_=>exact aV e
 |3,e=>
  unfold ro at e
  cases q:listAt H x with
  |none=>rw[q]at e;exact aV e
  |some ys=>
   rw[q]at e
   obtain⟨hz,e⟩:=aO e
   obtain⟨y,q,h2⟩:=gW q
   rw[q]at hx
   rw[hx.refInv.1]
   exact aL (vk h1 h2 (Nat.le_of_ble_eq_true hz) R (P.at e))
 |c+4,e=>exact aV e
theorem vp{fl:Bool}{n c:Nat}{as:List MV}{v:MV}{H':HH}(e:dm fl c n as H=some (v,H')){Vs:List Value}{Q:Value→Shared→Prop}
  (hg:A.guards=some [])(R:Rel pw w base h₀ L s.heap m news ρ H)(hx:br base ρ H.length news as Vs)(P:bh pw w base h₀ L m ρ news H s v H' Q):wpP fl (model pw w) A (call (.builtin (mid c)) (.ref (ρ n)::Vs)) Q s:=by
 unfold dm at e
 cases q:one as with
 |none=>rw[q]at e;exact aV e
 |some x=>
  rw[q]at e
  obtain⟨X,hX,hx⟩:=fk q hx
  rw[hX]
  dsimp only at e
  cases h1:H[n]? with
  |none=>rw[h1]at e;exact aV e
  |some o=>
   rw[h1]at e
   cases o with
   |list xs=>exact yD h1 e R hx P
   |dictI es=>
    dsimp only at e
    cases hc:Nat.beq c 4 with
    |false=>rw[hc]at e;exact aV e
    |true=>
     rw[hc]at e
     cases x with
     |int k=>
      obtain⟨hz,e⟩:=aO e
      cases q:dB es k with
      |none=>rw[q]at e;exact aV e
      |some y=>
       rw[q]at e
       obtain⟨t,hx⟩:=hx.intInv
       rw[hx,Nat.eq_of_beq_eq_true hc]
       exact aL (Eh h1 (Nat.le_of_ble_eq_true hz) q R (P.at e))
     |_=>exact aV e
   |barr y=>
    dsimp only at e
    cases hc:Nat.beq c 5 with
    |false=>rw[hc]at e;exact aV e
    |true=>
     rw[hc]at e
     cases x with
     |bytes b=>
      obtain⟨hz,e⟩:=aO e
      obtain⟨hf,hz⟩:=Bool.and_eq_true_iff.mp hz
      have hz:=Nat.le_of_ble_eq_true hz
      obtain⟨t,hx⟩:=hx.bytesInv
      have P:=P.at e
      rw[hx,hf,Nat.eq_of_beq_eq_true hc]
      refine B.extend (R.N _ (R.barrAt h1)).1 hg (by rw[List.append_toArray,List.size_toArray,List.length_append,sizeLine_eq];exact gV (by assumption)) fun h'=> ?_
      rw[List.append_toArray]at h'
      obtain⟨R',x⟩:=R.write h1 (Heap.SameBut.update ..) h' (.barr (y++b))
      exact P _ _ _ _ _ R' x .none
     |_=>exact aV e
   |_=>exact aV e
end
end Mine.Internal
end
section
set_option genInjectivity false
namespace Mine.Internal
open PySem
theorem eK{P:Prop}(e:false=true):P:=nomatch e
theorem dI{a b:Bool}(h:(a&&b)=true):a=true∧b=true:=Bool.and_eq_true_iff.mp h
theorem jO{a b c:Bool}(h:(a&&(b&&c))=true):a=true∧b=true∧c=true:=⟨(dI h).1,dI (dI h).2⟩
theorem ky{op:Operator}{o:fz}(h:lO op o=true):j3 op=some o:=by
 unfold lO at h
 cases e:j3 op with
 |none=>rw[e]at h;exact eK h
 |some o'=>rw[e]at h;rw[of_decide_eq_true h]
theorem vq{op:CmpOp}{o:jY}(h:ug op o=true):nY op=some o:=by
 unfold ug at h
 cases e:nY op with
 |none=>rw[e]at h;exact eK h
 |some o'=>rw[e]at h;rw[of_decide_eq_true h]
theorem cR{j:Nat}{a:Str}(h:i3 j a=true):j<223∧a=nm j:=
 ⟨Nat.le_of_ble_eq_true (dI h).1,(beq_iff_eq.mp (dI h).2).symm⟩
theorem qq{q:IE}(h:rr q=true):q= .c (.bool true):=by
 obtain⟨h0,h1⟩:=dI h
 have e:ce.v q= .bool true:=by
  generalize ce.v q=v at h1
  cases v with
  |bool b=>rw[show b=true from h1]
  |_=>exact eK h1
 exact(ce.tg_is h0).trans (congrArg IE.c e)
theorem kz{q:IE}(h:jR q=true):q= .c .none:=by
 obtain⟨h0,h1⟩:=dI h
 have e:ce.v q= .none:=by
  generalize ce.v q=v at h1
  cases v with
  |none=>rfl
  |_=>exact eK h1
 exact(ce.tg_is h0).trans (congrArg IE.c e)
theorem a1 {a b:Bool}(h:(a&&b)=true):a=true:=(Bool.and_eq_true_iff.mp h).1
theorem a2 {a b:Bool}(h:(a&&b)=true):b=true:=(Bool.and_eq_true_iff.mp h).2
theorem gH{α:Type}{l:List α}{b:Bool}(h:(l.isEmpty&&b)=true):l=[]:=List.isEmpty_iff.mp (a1 h)
theorem Aj{a b:Bool}(h:(a||b)=true):a=true∨b=true:=Bool.or_eq_true_iff.mp h
inductive EE(n:Nat)(cx:Cx):Expr→IE→Prop
 |c {c kk p v}:mQ c v=true→EE n cx (.Constant c kk p) (.c v)
 |l {x p i}:ir cx x i=true→EE n cx (.Name x p) (.l i)
 |g {x p v}:dn cx x v=true→EE n cx (.Name x p) (.c v)
 |bop {op es p ie}:sG n cx op es ie=true→EE n cx (.BoolOp op es p) ie
 |bin {l op r p o a b}:j3 op=some o→bB n cx l a=true→bB n cx r b=true→EE n cx (.BinOp l op r p) (.bin o a b)
 |not {x p a}:bB n cx x a=true→EE n cx (.UnaryOp .Not x p) (.not a)
 |usub {x p a}:bB n cx x a=true→EE n cx (.UnaryOp .USub x p) (.usub a)
 |ife {t a b p t' a' b'}:bB n cx t t'=true→bB n cx a a'=true→bB n cx b b'=true→EE n cx (.IfExp t a b p) (.ife t' a' b')
 |dsp {ks vs p k es}:f5 ks k=true→dF k=true→k.length≤15→ks.length=vs.length→dy n cx vs es=true→EE n cx (.Dict ks vs p) (.dsp k es)
 |lst {es p as}:dy n cx es as=true→EE n cx (.List es p) (.lst as)
 |tup {es st p as}:dy n cx es as=true→EE n cx (.Tuple es st p) (.tup as)
 |cmp {l op r p o a b}:nY op=some o→bB n cx l a=true→bB n cx r b=true→behindInMarks op r=false→EE n cx (.Compare l [op] [r] p) (.cmp o a b)
 |meth {o j ap args p io as}:j<223→bB n cx o io=true→dy n cx args as=true→(ap.endLine==p.line)=true→args.length<29→dE o=true→EE n cx (.Call (.Attribute o (nm j) ap) args [] p) (.meth io j as)
 |tab {o a ap args p f i j}:jS cx o a ap args p f i j=true→EE n cx (.Call (.Attribute o a ap) args [] p) (.tab f i j)
 |call {f fp args p g as}:dn cx f (.fn g)=true→dy n cx args as=true→EE n cx (.Call (.Name f fp) args [] p) (.call g as)
 |new {f fp args p g as}:dn cx f (.cls g)=true→dy n cx args as=true→EE n cx (.Call (.Name f fp) args [] p) (.new g as)
 |bi {f fp args p b as}:uf cx f b=true→dy n cx args as=true→EE n cx (.Call (.Name f fp) args [] p) (.bi b as)
 |attr {o j p io}:j<223→bB n cx o io=true→dE o=true→EE n cx (.Attribute o (nm j) p) (.attr io j)
 |slc {o lo hi sp p io l h}:bB n cx o io=true→AZ n cx lo l=true→AZ n cx hi h=true→EE n cx (.Subscript o (.Slice lo hi none sp) p) (.slc io l h)
 |sub {o i p a b}:f6 i=true→bB n cx o a=true→bB n cx i b=true→EE n cx (.Subscript o i p) (.sub a b)
 |comp {elt x px iter ifs scope p el src cond caps}:p9 cx scope x caps=true→bB n cx iter src=true→bB n (gG cx scope x) elt el=true→
   ((ifs=[]∧cond= .c (.bool true))∨ ∃c,ifs=[c]∧bB n (gG cx scope x) c cond=true)→EE n cx (.ListComp elt [⟨.Name x px,iter,ifs,0⟩] scope p) (.comp el src cond caps)
theorem yE{n:Nat}{cx:Cx}{l:Expr}{ops:List CmpOp}{rs:List Expr}{p:Pos}{ie:IE}(h:bB (n+1) cx (.Compare l ops rs p) ie=true):EE n cx (.Compare l ops rs p) ie:=by
 have h0:=a1 h
 have h:=a2 h
 cases ops with
 |nil=>exact eK h
 |cons op ops=>
  cases rs with
  |nil=>exact eK h
  |cons r rs=>
   rw[gH h,gH (a2 h)]
   exact ce.to h0 (.cmp (vq (a1 (a2 (a2 h)))) (a1 (a2 (a2 (a2 h)))) (a1 (a2 (a2 (a2 (a2 h))))) (Bool.not_eq_true' _▸a2 (a2 (a2 (a2 (a2 h))))))
theorem yF{n:Nat}{cx:Cx}{o:Expr}{a:Str}{ap:Pos}{args:List Expr}{p:Pos}{ie:IE}(h0:ce.tg ie 14=true)(h1:i3 (ce.k1 ie) a=true)
  (h:(bB n cx o (ce.e1 ie)&&(dy n cx args (ce.a1 ie)&&(ap.endLine==p.line&&(Nat.blt args.length 29&&dE o))))=true):EE n cx (.Call (.Attribute o a ap) args [] p) ie:=by
 rw[(cR h1).2]
 exact ce.to h0 (.meth (cR h1).1 (a1 h) (a1 (a2 h)) (a1 (a2 (a2 h))) (Nat.le_of_ble_eq_true (a1 (a2 (a2 (a2 h))))) (a2 (a2 (a2 (a2 h)))))
theorem yG{n:Nat}{cx:Cx}{o:Expr}{a:Str}{p:Pos}{io:IE}{j:Nat}(h1:i3 j a=true)(h2:bB n cx o io=true)(h3:dE o=true):EE n cx (.Attribute o a p) (.attr io j):=by
 rw[(cR h1).2]
 exact .attr (cR h1).1 h2 h3
theorem vr{n:Nat}{cx:Cx}{elt:Expr}{gens:List Comprehension}{scope:Scope}{p:Pos}{ie:IE}(h:bB (n+1) cx (.ListComp elt gens scope p) ie=true):EE n cx (.ListComp elt gens scope p) ie:=by
 have h0:=a1 h
 have h:=a2 h
 cases gens with
 |nil=>exact eK h
 |cons g gs=>
  obtain⟨tg,iter,ifs,asy⟩:=g
  cases tg with
  |Name x px=>
   rw[gH h,show asy=0 from beq_iff_eq.mp (a1 (a2 h))]
   have h6:=a2 (a2 (a2 (a2 (a2 h))))
   refine ce.to h0 (.comp (a1 (a2 (a2 h))) (a1 (a2 (a2 (a2 h)))) (a1 (a2 (a2 (a2 (a2 h))))) ?_)
   cases ifs with
   |nil=>exact .inl ⟨rfl,qq h6⟩
   |cons c cs=>rw[gH h6];exact .inr ⟨c,rfl,a2 h6⟩
  |_=>exact eK h
theorem yH{n:Nat}{cx:Cx}{o i:Expr}{p:Pos}{ie:IE}(h:bB (n+1) cx (.Subscript o i p) ie=true):EE n cx (.Subscript o i p) ie:=by
 rcases Aj h with h|h
 ·have h0:=a1 h
  have h:=a2 h
  cases i with
  |Slice lo hi st sp=>
   rw[Option.isNone_iff_eq_none.mp (a1 h)]
   exact ce.to h0 (.slc (a1 (a2 h)) (a1 (a2 (a2 h))) (a2 (a2 (a2 h))))
  |_=>exact eK h
 ·exact ce.to (a1 h) (.sub (a1 (a2 h)) (a1 (a2 (a2 h))) (a2 (a2 (a2 h))))
theorem nj{n:Nat}{cx:Cx}{e:Expr}{ie:IE}(h:bB (n+1) cx e ie=true):EE n cx e ie:=by
 cases e with
 |Constant c kk p=>exact ce.to (a1 h) (.c (a2 h))
 |Name x p=>exact(Aj h).elim (fun h=>ce.to (a1 h) (.l (a2 h))) fun h=>ce.to (a1 h) (.g (a2 h))
 |BoolOp op es p=>exact .bop h
 |BinOp l op r p=>exact ce.to (a1 h) (.bin (ky (a1 (a2 h))) (a1 (a2 (a2 h))) (a2 (a2 (a2 h))))
 |UnaryOp op x p=>
  cases op with
  |Not=>exact ce.to (a1 h) (.not (a2 h))
  |USub=>exact ce.to (a1 h) (.usub (a2 h))
  |_=>exact eK h
 |IfExp t a b p=>exact ce.to (a1 h) (.ife (a1 (a2 h)) (a1 (a2 (a2 h))) (a2 (a2 (a2 h))))
 |Dict ks vs p=>exact ce.to (a1 h) (.dsp (a1 (a2 h)) (a1 (a2 (a2 h))) (Nat.le_of_ble_eq_true (a1 (a2 (a2 (a2 h))))) (Nat.eq_of_beq_eq_true (a1 (a2 (a2 (a2 (a2 h)))))) (a2 (a2 (a2 (a2 (a2 h))))))
 |List es p=>exact ce.to (a1 h) (.lst (a2 h))
 |Tuple es st p=>exact ce.to (a1 h) (.tup (a2 h))
 |Compare l ops rs p=>exact yE h
 |Call f args kws p=>
  have h0:kws=[]:=gH h
  rw[h0]
  have h:=a2 (show(kws.isEmpty&&_)=true from h)
  cases f with
  |Attribute o a ap=>exact(Aj h).elim (fun h=>yF (a1 h) (a1 (a2 h)) (a2 (a2 h))) fun h=>ce.to (a1 h) (.tab (a2 h))
  |Name f fp=>exact(Aj h).elim (fun h=>ce.to (a1 h) (.call (a1 (a2 h)) (a2 (a2 h)))) fun h=>(Aj h).elim (fun h=>ce.to (a1 h) (.new (a1 (a2 h)) (a2 (a2 h)))) fun h=>ce.to (a1 h) (.bi (a1 (a2 h)) (a2 (a2 h)))
  |_=>exact eK h
 |Attribute o a p=>exact ce.to (a1 h) (yG (a1 (a2 h)) (a1 (a2 (a2 h))) (a2 (a2 (a2 h))))
 |Subscript o i p=>exact yH h
 |ListComp elt gens scope p=>exact vr h
 |_=>exact eK h
inductive TT(n:Nat)(cx:Cx):Expr→IT→Prop
 |loc {x p i}:eP cx x i=true→TT n cx (.Name x p) (.loc i)
 |attr {o j p io}:j<223→bB n cx o io=true→dE o=true→TT n cx (.Attribute o (nm j) p) (.attr io j)
 |sub {o i p a b}:f6 i=true→bB n cx o a=true→bB n cx i b=true→TT n cx (.Subscript o i p) (.sub a b)
theorem gB{n:Nat}{cx:Cx}{e:Expr}{t:IT}(h:tZ n cx e t=true):TT n cx e t:=by
 cases t with
 |loc i=>
  cases e with
  |Name x p=>exact .loc h
  |_=>exact eK h
 |attr io j=>
  cases e with
  |Attribute o a p=>
   have⟨h1,h2,h3⟩:=jO h
   have⟨hj,e⟩:=cR h1
   rw[e]
   exact .attr hj h2 h3
  |_=>exact eK h
 |sub a b=>
  cases e with
  |Subscript o i p=>have⟨h1,h2,h3⟩:=jO h;exact .sub h1 h2 h3
  |_=>exact eK h
inductive lH(n:Nat)(cx:Cx):Stmt→IS→Prop
 |assignT {ts st p' v p its e}:j5 n cx ts its=true→bB n cx v e=true→fB v=false→mS ts v=false→dF (fC its)=true→(qa its||uj its)=true→lH n cx (.Assign [.Tuple ts st p'] v p) (.assignT its e)
 |assign {t v p it e}:tZ n cx t it=true→bB n cx v e=true→qb t v=true→lH n cx (.Assign [t] v p) (.assign it e)
 |augL {x p' op v p i o e}:eP cx x i=true→j3 op=some o→bB n cx v e=true→lH n cx (.AugAssign (.Name x p') op v p) (.augL i o e)
 |augA {ob j p' op v p b o e}:j<223→bB n cx ob b=true→j3 op=some o→bB n cx v e=true→lH n cx (.AugAssign (.Attribute ob (nm j) p') op v p) (.augA b j o e)
 |ite {t a b p t' a' b'}:bB n cx t t'=true→fD n cx a a'=true→fD n cx b b'=true→lH n cx (.If t a b p) (.ite t' a' b')
 |whil {t a p t' a'}:bB n cx t t'=true→fD n cx a a'=true→lH n cx (.While t a [] p) (.whil t' a')
 |for1 {x p' it a p i e a'}:eP cx x i=true→bB n cx it e=true→fD n cx a a'=true→lH n cx (.For (.Name x p') it a [] p) (.forr [i] true e a')
 |forN {es st p' it a p ts e a'}:j6 cx es ts=true→bB n cx it e=true→fD n cx a a'=true→lH n cx (.For (.Tuple es st p') it a [] p) (.forr ts false e a')
 |ret {e p ie}:bB n cx e ie=true→lH n cx (.Return (some e) p) (.ret ie)
 |ret0 {p}:lH n cx (.Return none p) (.ret (.c .none))
 |ex {e p ie}:bB n cx e ie=true→fB e=false→lH n cx (.Expr e p) (.ex ie)
 |cont {p}:lH n cx (.Continue p) .cont
 |brk {p}:lH n cx (.Break p) .brk
 |bad {e c p}:lH n cx (.Raise e c p) .bad
theorem iD{b:Bool}(h:(!b)=true):b=false:=by cases b<;>first|rfl|exact eK h
theorem qr{n:Nat}{cx:Cx}{t v:Expr}{p:Pos}{is:IS}(h:Dd (n+1) cx (.Assign [t] v p) is=true):lH n cx (.Assign [t] v p) is:=by
 rcases Aj (show(_||_)=true from h)with h|h
 ·have h0:=a1 h
  have h:=a2 h
  cases t with
  |Tuple ts st p'=>exact cs.to h0 (.assignT (a1 h) (a1 (a2 h)) (iD (a1 (a2 (a2 h)))) (iD (a1 (a2 (a2 (a2 h))))) (a1 (a2 (a2 (a2 (a2 h))))) (a2 (a2 (a2 (a2 (a2 h))))))
  |_=>exact eK h
 ·exact cs.to (a1 h) (.assign (a1 (a2 h)) (a1 (a2 (a2 h))) (a2 (a2 (a2 h))))
theorem yI{n:Nat}{cx:Cx}{ob v:Expr}{a:Str}{op:Operator}{p p':Pos}{b e:IE}{k:Nat}{o:fz}(h1:i3 k a=true)(h2:bB n cx ob b=true)(h3:lO op o=true)(h4:bB n cx v e=true):lH n cx (.AugAssign (.Attribute ob a p') op v p) (.augA b k o e):=by
 rw[(cR h1).2]
 exact .augA (cR h1).1 h2 (ky h3) h4
theorem yJ{n:Nat}{cx:Cx}{t it:Expr}{a:List Stmt}{p:Pos}{is:IS}(h:Dd (n+1) cx (.For t it a [] p) is=true):lH n cx (.For t it a [] p) is:=by
 have h:=(show(_&&_)=true from h)
 have h0:=a1 h
 have h1:=a1 (a2 h)
 have h2:=a1 (a2 (a2 h))
 have h3:=a2 (a2 (a2 h))
 refine cs.to h0 (P:=lH n cx _) ?_
 show lH n cx _ (.forr (cs.ls is) (cs.s is) (cs.e1 is) (cs.p is))
 generalize cs.ls is=ls at h1
 generalize cs.s is=s at h1
 clear h h0
 cases s with
 |true=>
  cases t with
  |Name x p'=>
   cases ls with
   |nil=>exact eK h1
   |cons i r=>rw[gH h1];exact .for1 (a2 h1) h2 h3
  |_=>exact eK h1
 |false=>
  cases t with
  |Tuple es st p'=>exact .forN h1 h2 h3
  |_=>exact eK h1
theorem BG{n:Nat}{cx:Cx}{v:Option Expr}{p:Pos}{ie:IE}(h:(match v with
   |some e=>bB n cx e ie
   |none=>jR ie)=true):lH n cx (.Return v p) (.ret ie):=by
 cases v with
 |some e=>exact .ret h
 |none=>rw[kz h];exact .ret0
theorem yK{n:Nat}{cx:Cx}{s:Stmt}{is:IS}(h:Dd (n+1) cx s is=true):lH n cx s is:=by
 cases s with
 |Assign ts v p=>
  cases ts with
  |nil=>exact eK h
  |cons t r=>
   have e:r=[]:=gH h
   rw[e]at h⊢
   exact qr h
 |AugAssign t op v p=>
  cases t with
  |Name x p'=>exact cs.to (a1 h) (.augL (a1 (a2 h)) (ky (a1 (a2 (a2 h)))) (a2 (a2 (a2 h))))
  |Attribute ob a p'=>exact cs.to (a1 h) (yI (a1 (a2 h)) (a1 (a2 (a2 h))) (a1 (a2 (a2 (a2 h)))) (a2 (a2 (a2 (a2 h)))))
  |_=>exact eK h
 |If t a b p=>exact cs.to (a1 h) (.ite (a1 (a2 h)) (a1 (a2 (a2 h))) (a2 (a2 (a2 h))))
 |While t a els p=>
  rw[show els=[]from gH h]
  have h:=a2 (show(els.isEmpty&&_)=true from h)
  exact cs.to (a1 h) (.whil (a1 (a2 h)) (a2 (a2 h)))
 |For t it a els p=>
  have e:els=[]:=gH h
  rw[e]at h⊢
  exact yJ h
 |Return v p=>exact cs.to (a1 h) (BG (a2 h))
 |Expr e p=>exact cs.to (a1 h) (.ex (a1 (a2 h)) (iD (a2 (a2 h))))
 |Continue p=>exact cs.to (t:=9) h .cont
 |Break p=>exact cs.to (t:=10) h .brk
 |Raise e c p=>exact cs.to (t:=11) h .bad
 |_=>exact eK h
theorem iE{p:Arguments}(h:i5 p=true):p=⟨[],p.args,none,[],[],none,p.defaults⟩:=by
 obtain⟨po,as,va,ko,kd,kw,ds⟩:=p
 have e1:po=[]:=gH h
 have e2:va=none:=Option.isNone_iff_eq_none.mp (a1 (a2 h))
 have e3:ko=[]:=gH (a2 (a2 h))
 have e4:kd=[]:=gH (a2 (a2 (a2 h)))
 have e5:kw=none:=Option.isNone_iff_eq_none.mp (a2 (a2 (a2 (a2 h))))
 rw[e1,e2,e3,e4,e5]
end Mine.Internal
end
section
namespace Mine.Internal
open PySem PySem.Spec PySem.Calls PyProof.Rows PySem.W PySem.SeqAt
inductive lX(K:Frag):Value→List MV→Prop
 |none:lX K .none []
 |some {T:Addr}{o:Obj}{items:Array Value}{n:Nat}{dfl:List MV}:K.lookup T=some o→o.data= .seq items n→(∀base ρ N news,br base ρ N news dfl items.toList)→lX K (.ref T) dfl
inductive yL(K:Frag)(f:Addr)(fd:FuncData):Prop
 |mk (oc:Value)(od:Option Addr)(osl:Array (Option Value))(look:K.lookup f=some ⟨oc,od,.func fd,osl⟩)(code:codeIn K fd.code fd.qualname=true)(g:fd.globals=mainGlobals)(b:fd.builtins=builtinsNs):yL K f fd
noncomputable def Ej(K:Frag)(f:Addr)(F:Fn):Prop:= ∃fd,bx (yL K f fd) (F7 fd F=true) (lX K fd.defaults F.dfl)
inductive Ak:MV→Value→Prop
 |int (i:Int)(t:Tok):Ak (.int i) (.int i t)
 |str (k:Nat)(t:Tok):k<223→Ak (.str k) (.str (nm k) t)
 |fn (f:Nat):Ak (.fn f) (.ref f)
 |cls (c:Nat):Ak (.cls c) (.ref c)
structure vt(K:Frag)(c f:Nat):Prop where
 makes:makesIn K c=true
 init:findIn K (.ref c) "__init__" =some (some (.ref f))
 initT:typeIn K (.ref f)=some (.type "function")
 setattr:findIn K (.ref c) "__setattr__" =some (some (.builtin "object.__setattr__"))
 over:plainOver K c=true
 dict:hasDictIn K c=true
 get: ∀name,plainGet K c name=true
 plain: ∀k,ck c k= .plain→findIn K (.ref c) (nm k)=some none∧takerIn K c (nm k)=some none
 meth: ∀k f,ck c k= .meth f→findIn K (.ref c) (nm k)=some (some (.ref f))∧isFn K (.ref f)=true∧keepIn K (.ref f)=true
noncomputable def vu(K:Frag)(f:Addr)(T:List (Nat×Nat×Nat)):Prop:= ∃fd,bx (yL K f fd) (fd.defaults= .none) (yd fd T=true)
structure Bs(base:Heap)(fns:Nat→Option Fn):Prop where
 nolim:base.NoLimit
 sys: ∃o,base.get? sysModules=some o
 glob: ∃mg,bx (base.Ns mainGlobals mg) ((∀x v,(lM.any fun p=>rq p.2 v&&sF x p.1)=true→ ∃V,mg x=some V∧Ak v V)) (∀b,mg (Str.ofString (i4 b))=none)
 bi: ∃mb,base.Ns builtinsNs mb∧ ∀b,mb (Str.ofString (i4 b))=some (Dy b)
 cls: ∀c f,dC dW c=some f→ ∃K:Frag,K.In base∧vt K c f
 noProp: ∀c k g,ck c k≠ .prop g
 fn: ∀f F,fns f=some F→ ∃K:Frag,K.In base∧Ej K f F
 tab: ∀f T,tabs lN f=some T→ ∃K:Frag,K.In base∧vu K f T
 keepG: ∀x v,(lM.any fun p=>rq p.2 v&&sF x p.1)=true→ ∀a,v= .fn a∨v= .cls a→ ∃K:Frag,K.In base∧keepIn K (.ref a)=true
structure BH(A:Around)(n:Nat):Prop where
 hd:A.handled=none
 gd:A.guards=some []
 dp:A.depth+2*n+3<recursionLimit
 un:A.units+8*n+155<cLine
structure yM(A:Around)(n:Nat):Prop where
 hd:A.handled=none
 gd:A.guards=some []
 dp:A.depth+2*n+2<recursionLimit
 un:A.units+8*n+150<cLine
theorem BH.call {A:Around}{n:Nat}(h:BH A n):yM A n:=⟨h.hd,h.gd,Nat.lt_of_succ_lt h.dp,Nat.lt_of_le_of_lt (Nat.add_le_add_left (by decide) _) h.un⟩
theorem yM.body {A:Around}{n:Nat}(h:yM A (n+1))(env:Env):BH (A.deeper env) n:=
 ⟨h.hd,h.gd,GP h.dp,GQ h.un⟩
theorem BH.make {A:Around}{n:Nat}(h:BH A n)(C:Addr)(Vs:List Value):yM (A.under (.builtin "type.__call__" ⟨.ref C::Vs,[]⟩)) n:=
 ⟨h.hd,(by rw[show(A.under (.builtin "type.__call__" ⟨.ref C::Vs,[]⟩)).guards=A.guards from rfl];exact h.gd),by
  have:=h.dp
  show A.depth+(Code.builtin "type.__call__" ⟨.ref C::Vs,[]⟩).weight+_+_<_
  rw[show(Code.builtin "type.__call__" ⟨.ref C::Vs,[]⟩).weight=1 from rfl]
  exact GS this,by
  have:=h.un
  show A.units+(Code.builtin "type.__call__" ⟨.ref C::Vs,[]⟩).cUnits+_+_<_
  rw[show(Code.builtin "type.__call__" ⟨.ref C::Vs,[]⟩).cUnits=1 from rfl]
  exact GR this⟩
structure dJ(cx:Cx)(L:Addr)(env:Env):Prop where
 kind:env.scope.kind= .function
 names:env.scope.names=cx.sc
 loc:env.locals=L
 glob:env.globals=mainGlobals
 bi:env.builtins=builtinsNs
section
variable(base:Heap)(ρ:Nat→Addr)(N:Nat)(news:Led)(cx:Cx)(env:Env)(m:Str→Option Value)
noncomputable def bW(x:Str)(v:MV):Prop:=match cx.sc.lookup x with
 |some .local=>(v= .unb∧m x=none)∨ ∃V,m x=some V∧aY base ρ N news v V
 |some .cell=>iX fun c o V=>nV (env.cells.lookup x=some c) ((c,o)∈news) (cK ρ N c) (o.data= .cell (some V)) (aY base ρ N news v V)
 |_=>True
structure cL(loc:Loc):Prop where
 nd:cx.locs.Nodup
 len:loc.length=cx.locs.length
 at_: ∀(i:Nat)(x:Str)(v:MV),cx.locs[i]? =some x→loc[i]? =some v→bW base ρ N news cx env m x v
 noFree: ∀x,cx.sc.lookup x≠some .free
end
section
variable{base:Heap}{ρ ρ':Nat→Addr}{N N':Nat}{news news':Led}{cx:Cx}{env:Env}{m:Str→Option Value}{loc:Loc}
theorem bW.map {y:Str}{v:MV}(h:bW base ρ N news cx env m y v)(f: ∀{V},aY base ρ N news v V→aY base ρ' N' news' v V)
  (g: ∀c o V,(c,o)∈news→cK ρ N c→o.data= .cell (some V)→aY base ρ N news v V→bx ((c,o)∈news') (cK ρ' N' c) (aY base ρ' N' news' v V)):bW base ρ' N' news' cx env m y v:=by
 unfold bW at h⊢
 cases q:cx.sc.lookup y with
 |none=>exact trivial
 |some k=>
  rw[q]at h
  cases k with
  | «local» =>
   rcases h with h|⟨V,h1,h2⟩
   ·exact .inl h
   ·exact .inr ⟨V,h1,f h2⟩
  |cell=>
   obtain⟨c,o,V,h1,h2,h3,h4,h5⟩:=h
   obtain⟨h2',h3',h5'⟩:=g c o V h2 h3 h4 h5
   exact⟨c,o,V,h1,h2',h3',h4,h5'⟩
  |_=>exact trivial
theorem bW.congr {m':Str→Option Value}{y:Str}{v:MV}(e:m' y=m y)(h:bW base ρ N news cx env m y v):bW base ρ N news cx env m' y v:=by
 unfold bW at h⊢
 rw[e]
 exact h
theorem bW.mono (x:Ext ρ N news ρ' N' news'){y:Str}{v:MV}(h:bW base ρ N news cx env m y v):bW base ρ' N' news' cx env m y v:=by
 refine h.map (fun h2=>h2.mono x) fun c o V h2 h3 h4 h5=> ?_
 obtain⟨h2',h3'⟩:=x.keep _ h2 h3
 exact⟨h2',h3',h5.mono x⟩
theorem cL.mono (x:Ext ρ N news ρ' N' news')(h:cL base ρ N news cx env m loc):cL base ρ' N' news' cx env m loc:=⟨h.nd,h.len,fun i y v a b=>(h.at_ i y v a b).mono x,h.noFree⟩
theorem s6 {l:List Str}(hn:l.Nodup){i j:Nat}{x:Str}(h:l[i]? =some x)(h':l[j]? =some x):i=j:=by
 have hi:=cE h
 exact(List.getElem?_inj hi hn).mp (h.trans h'.symm)
theorem cL.set (h:cL base ρ N news cx env m loc){i:Nat}{x:Str}(hx:cx.locs[i]? =some x)(hk:cx.sc.lookup x=some .local){v:MV}{V:Value}(hv:aY base ρ N news v V):
  cL base ρ N news cx env (fun y=>if y=x then some V else m y) (loc.set i v):=by
 refine⟨h.nd,by rw[List.length_set];exact h.len,fun j y u hj hu=> ?_,h.noFree⟩
 by_cases e:j=i
 ·subst e
  rw[hx]at hj
  cases hj
  have hl:j<loc.length:=by rw[h.len];exact cE hx
  rw[List.getElem?_set_self hl]at hu
  cases hu
  unfold bW
  rw[hk]
  exact .inr ⟨V,by simp,hv⟩
 ·rw[List.getElem?_set_ne (Ne.symm e)]at hu
  have hne:y≠x:=fun z=>e (s6 h.nd hj (z▸hx))
  exact(h.at_ j y u hj hu).congr (if_neg hne)
end
section
variable{w:World}{K:Frag}{base h₀ h h':Heap}{L:Addr}{m:Str→Option Value}{news:Led}{ρ:Nat→Addr}{H:HH}{A:Around}{s:Shared}{E:Value→Shared→Prop}{cx:Cx}{env:Env}{loc:Loc}
noncomputable abbrev bG (base h₀:Heap):Prop:= ∀b o,base.get? b=some o→h₀.get? b=some o
theorem bG.now (st:bG base h₀)(R:Rel pw w base h₀ L h m news ρ H):bG base h:=fun b o e=>R.F.keep b o (st b o e)
theorem vw(st:bG base h₀)(R:Rel pw w base h₀ L h m news ρ H): ∀a Vs,base.IsList a Vs→h.IsList a Vs:=fun _ _ ⟨o,ho,r⟩=>⟨o,st.now R _ _ ho,r⟩
theorem vx(B:Bs base fns)(st:bG base h₀): ∃o,h₀.get? sysModules=some o:=let ⟨o,ho⟩:=B.sys;⟨o,st _ _ ho⟩
theorem BI(kin:K.In base)(st:bG base h₀):K.In h₀:=fun a o e=>st _ _ (kin a o e)
theorem Ak.ok {v:MV}{V:Value}(h:Ak v V){N:Nat}:aY base ρ N news v V:=by
 cases h with
 |int i t=>exact .int i t
 |str k t h=>exact .str k t h
 |fn f=>exact .fn f
 |cls c=>exact .cls c
theorem nk{x:Str}{s:String}(h:(!sF x s)=true):(x==Str.ofString s)=false:=by
 unfold sF at h
 exact Bool.not_eq_true' _|>.mp h
theorem gg{x:Str}(h:il cx x=true):cx.sc.lookup x=some .globalImplicit:=by
 unfold il at h
 cases e:cx.sc.lookup x with
 |none=>rw[e]at h;exact bF h
 |some kd=>
  rw[e]at h
  cases kd with
  |globalImplicit=>rfl
  |_=>exact bF h
theorem fG{i:Nat}{v:MV}(h:bU loc i=some v):v≠ .unb∧loc[i]? =some v:=by
 unfold bU at h
 cases e:loc[i]? with
 |none=>rw[e]at h;exact aV h
 |some u=>
  rw[e]at h
  cases u with
  |unb=>exact aV h
  |_=>rw[←Option.some.inj h];exact⟨MV.noConfusion,rfl⟩
theorem kA{x:Str}{i:Nat}{v:MV}{pos:Pos}{Q:Value→Shared→Prop}(hc:ir cx x i=true)(hv:bU loc i=some v)(EO:dJ cx L env)(R:Rel pw w base h₀ L s.heap m news ρ H)(LO:cL base ρ H.length news cx env m loc)
  (P: ∀V,aY base ρ H.length news v V→Q V s):wpAny (model pw w) A (eval (.Name x pos) env) Q E s:=by
 unfold ir at hc
 obtain⟨hc,h4⟩:=Bool.and_eq_true_iff.mp hc
 obtain⟨hc,h3⟩:=Bool.and_eq_true_iff.mp hc
 obtain⟨h1,h2⟩:=Bool.and_eq_true_iff.mp hc
 have hx:cx.locs[i]? =some x:=by
  cases e:cx.locs[i]? with
  |none=>rw[e]at h1;exact bF h1
  |some y=>rw[e]at h1;exact congrArg some (beq_iff_eq.mp h1)
 obtain⟨hn,hl⟩:=fG hv
 have q:=LO.at_ i x v hx hl
 refine wpAny_Name ?_ (nk h3)
 unfold bW at q
 have hkn:env.kindOf x=cx.sc.lookup x:=by unfold Env.kindOf;rw[EO.names]
 cases e:cx.sc.lookup x with
 |none=>rw[e]at h2;exact bF h2
 |some kd=>
  rw[e]at q h2
  cases kd with
  | «local» =>
   rcases q with⟨q,_⟩|⟨V,q1,q2⟩
   ·exact absurd q hn
   ·exact wpAny_loadName_local EO.kind (hkn.trans e) (by rw[EO.loc];exact R.F.ns) q1 (P V q2)
  |cell=>
   obtain⟨c,o,V,q1,q2,q3,q4,q5⟩:=q
   exact wpAny_loadName_cell EO.kind (hkn.trans e) q1 ⟨o,(R.N _ q2).1,q4⟩ (P V q5)
  |free=>exact absurd e (LO.noFree x)
  |_=>exact bF h2
theorem yN{x:Str}{i:Nat}{v:MV}{pos:Pos}{Q:Value→Shared→Prop}(hc:ir cx x i=true)(hv:bU loc i=some v)(EO:dJ cx L env)(R:Rel pw w base h₀ L s.heap m news ρ H)(LO:cL base ρ H.length news cx env m loc)
  (P:bh pw w base h₀ L m ρ news H s v H Q):wpAny (model pw w) A (eval (.Name x pos) env) Q E s:=
 kA hc hv EO R LO fun _ h=>P.id R h
theorem iF{x:Str}{v:MV}{pos:Pos}{Q:Value→Shared→Prop}(B:Bs base fns)(st:bG base h₀)(hc:dn cx x v=true)(EO:dJ cx L env)(R:Rel pw w base h₀ L s.heap m news ρ H)
  (P: ∀V,aY base ρ H.length news v V→Q V s):wpAny (model pw w) A (eval (.Name x pos) env) Q E s:=by
 unfold dn at hc
 simp only[Bool.and_eq_true]at hc
 obtain⟨⟨h1,h2⟩,h3⟩:=hc
 obtain⟨mg,g1,g2,g3⟩:=B.glob
 obtain⟨V,hV,hg⟩:=g2 x v h3
 have hkn:env.kindOf x=some .globalImplicit:=by unfold Env.kindOf;rw[EO.names];exact gg h1
 exact Name_function_global EO.kind hkn (loadGlobal_global (by rw[EO.glob];exact g1.keeps (st.now R)) hV (P V hg.ok)) (nk h2)
theorem s7 {x:Str}{b:BK}{pos:Pos}{Q:Value→Shared→Prop}(B:Bs base fns)(st:bG base h₀)(hc:uf cx x b=true)(EO:dJ cx L env)(R:Rel pw w base h₀ L s.heap m news ρ H)
  (P:Q (Dy b) s):wpAny (model pw w) A (eval (.Name x pos) env) Q E s:=by
 unfold uf sF at hc
 simp only[Bool.and_eq_true,beq_iff_eq]at hc
 obtain⟨h1,rfl⟩:=hc
 obtain⟨mg,g1,g2,g3⟩:=B.glob
 obtain⟨mb,b1,b2⟩:=B.bi
 have hkn:env.kindOf (Str.ofString (i4 b))=some .globalImplicit:=by unfold Env.kindOf;rw[EO.names];exact gg h1
 exact Name_function_global EO.kind hkn (loadGlobal_builtin (by rw[EO.glob];exact g1.keeps (st.now R)) (g3 b) (by rw[EO.bi];exact b1.keeps (st.now R)) (b2 b) P) (by cases b<;>decide)
theorem yO{c:Const}{v:MV}{Q:Value→Shared→Prop}(hc:mQ c v=true)(R:Rel pw w base h₀ L s.heap m news ρ H)(P:bh pw w base h₀ L m ρ news H s v H Q):wpAny (model pw w) A (constValue env c) Q E s:=by
 cases c with
 |none=>
  cases v with
  |none=>exact wpAny_pure (P.id R .none)
  |_=>exact bF hc
 |bool a=>
  cases v with
  |bool b=>rw[beq_iff_eq.mp hc];exact wpAny_pure (P.id R (.bool _))
  |_=>exact bF hc
 |int a=>
  cases v with
  |int b=>rw[of_decide_eq_true hc];exact wpAny_mkInt (P.now R (.int _ _) _)
  |_=>exact bF hc
 |str a=>
  cases v with
  |str b=>
   obtain⟨h1,h2⟩:=Bool.and_eq_true_iff.mp hc
   rw[←beq_iff_eq.mp h2]
   exact wpAny_mkText (P.now R (.str _ _ (Nat.le_of_ble_eq_true h1)) _)
  |_=>exact bF hc
 |bytes a=>
  cases v with
  |bytes b=>rw[of_decide_eq_true hc];exact wpAny_mkTextBytes (P.now R (.bytes _ _) _)
  |_=>exact bF hc
 |_=>exact bF hc
theorem aY.handed {N:Nat}{v:MV}{V:Value}(h:aY base ρ N news v V):handedIn V=true:=by cases h<;>rfl
theorem oG{j k:Nat}{t:Tok}(hj:j<223)(hk:k<223):(Value.str (nm j) t).isStr (nm k)=Nat.beq j k:=by
 show(nm j==nm k)=_
 exact km hj hk
theorem fj.noRef {N:Nat}{fs:List (Nat×MV)}{es:List DictEntry}(h:fj base ρ N news fs es):es.any (·.refKey)=false:=by
 induction h with
 |nil=>rfl
 |cons _ _ _ ih=>rw[List.any_cons,ih];rfl
theorem fj.get {N:Nat}{fs:List (Nat×MV)}{es:List DictEntry}(h:fj base ρ N news fs es){k:Nat}(hk:k<223):
  match dS fs k with
  |some v=> ∃V,getL (nm k) es=some (some V)∧aY base ρ N news v V
  |none=>getL (nm k) es=some none:=by
 have key:match dS fs k with
  |some v=> ∃e,es.find? (·.key.isStr (nm k))=some e∧aY base ρ N news v e.val
  |none=>es.find? (·.key.isStr (nm k))=none:=by
  induction h with
  |nil=>rfl
  | @cons j v hsh t V fs es hj hv r ih=>
   unfold dS
   rw[List.find?_cons,oG hj hk]
   cases e:Nat.beq j k with
   |true=>exact⟨_,rfl,hv⟩
   |false=>simpa using ih
 revert key
 unfold getL
 cases dS fs k with
 |none=>intro key;simp only at key⊢;rw[key];simp only[h.noRef];rfl
 |some v=>rintro⟨e,h1,h2⟩;exact⟨e.val,by rw[h1],h2⟩
theorem fj.put {N:Nat}{fs:List (Nat×MV)}{es:List DictEntry}(h:fj base ρ N news fs es){k:Nat}(hk:k<223){v:MV}{V:Value}(hv:aY base ρ N news v V)(hsh:Int)(t:Tok):
  fj base ρ N news (aput fs k v) (putL (nm k) hsh (.str (nm k) t) V es):=by
 induction h with
 |nil=>exact .cons hk hv .nil
 | @cons j u hsh' t' U fs es hj hu r ih=>
  unfold aput putL
  dsimp only
  rw[oG hj hk]
  cases e:Nat.beq j k with
  |true=>
   have:=Nat.eq_of_beq_eq_true e
   subst this
   simp only[if_true]
   exact .cons hk hv r
  |false=>
   simp only[Bool.false_eq_true,if_false]
   exact .cons hj hu ih
theorem fj.len {N:Nat}{fs:List (Nat×MV)}{es:List DictEntry}(h:fj base ρ N news fs es):es.length=fs.length:=by
 induction h with
 |nil=>rfl
 |cons _ _ _ ih=>rw[List.length_cons,List.length_cons,ih]
theorem oH(name:Str)(hsh:Int)(key v:Value): ∀es:List DictEntry,(putL name hsh key v es).length≤es.length+1
 |[]=>Nat.le_refl _
 |e::r=>by
  unfold putL
  split
  ·simp
  ·exact Nat.succ_le_succ (oH name hsh key v r)
theorem qs{v:MV}{n c d:Nat}(hi:cz H v=some (n,c,d)):v= .ref n∧H[n]? =some (.inst c d):=by
 cases v with
 |ref i=>
  unfold cz at hi
  dsimp only at hi
  cases q:H[i]? with
  |none=>rw[q]at hi;exact aV hi
  |some o=>
   rw[q]at hi
   cases o with
   |inst c' d'=>
    obtain⟨e1,e2⟩:=Prod.mk.inj (Option.some.inj hi)
    obtain⟨e2,e3⟩:=Prod.mk.inj e2
    exact⟨congrArg _ e1,by rw[←e1,←e2,←e3];exact q⟩
   |_=>exact aV hi
 |_=>exact aV hi
theorem nq{v:MV}{V:Value}{n c d:Nat}(hi:cz H v=some (n,c,d))(hv:aY base ρ H.length news v V)(R:Rel pw w base h₀ L h m news ρ H):
  v= .ref n∧V= .ref (ρ n)∧H[n]? =some (.inst c d)∧h.get? (ρ n)=some (instObj c (ρ d))∧(dC dW c).isSome=true∧d<H.length:=by
 obtain⟨e,q⟩:=qs hi
 obtain⟨m1,hd,hs⟩:=R.instAt q
 exact⟨e,(e▸hv).refInv.1,q,(R.N _ m1).1,hs,hd⟩
theorem jc{x:Addr}{c d:Nat}{es:List DictEntry}{n:Nat}(g:h.get? x=some (instObj c (ρ d)))(k:h.get? (ρ d)=some (dictOf es n)):InstAt h x (instObj c (ρ d)) c (some (dictOf es n)):=
 ⟨g,rfl,rfl,k⟩
theorem nr{c:Nat}(h:(dC dW c).isSome=true): ∃f,dC dW c=some f:=Option.isSome_iff_exists.mp h
theorem rJ{v r:MV}{V:Value}{n c d k:Nat}{fs:List (Nat×MV)}(B:Bs base fns)(st:bG base h₀)(hk:k<223)(hi:cz H v=some (n,c,d))(hc:ck c k= .plain)(hd:H[d]? =some (.attrs fs))(hg:dS fs k=some r)
  {Q:Value→Shared→Prop}(R:Rel pw w base h₀ L s.heap m news ρ H)(hv:aY base ρ H.length news v V)(P:bh pw w base h₀ L m ρ news H s r H Q):wpAny (model pw w) A (getAttr V (nm k) true) Q E s:=by
 obtain⟨_,hV,h1,g1,hs,hdl⟩:=nq hi hv R
 obtain⟨f,hf⟩:=nr hs
 obtain⟨K,kin,c1,c2,c3,c4,c5,c6,c7,c8,c9⟩:=B.cls c f hf
 obtain⟨p1,p2⟩:=c8 k hc
 obtain⟨es,n2,m2,r2⟩:=R.attrsAt hd
 have q:=r2.get hk
 rw[hg]at q
 obtain⟨U,hU,hu⟩:=q
 rw[hV]
 exact get_own R.F (BI kin st) (jc g1 (R.N _ m2).1) (c7 _) c6 p1 rfl hU hu.handed (P.now R hu _)
theorem s8 {a v:MV}{k:Nat}{H':HH}(e:setAt a k v H=some H'):jM fun n c d fs=>p8 (cz H a=some (n,c,d)) (ck c k= .plain) (H[d]? =some (.attrs fs)) (k<223) (fs.length<100) (H.set d (.attrs (aput fs k v))=H'):=by
 unfold setAt at e
 cases q:cz H a with
 |none=>rw[q]at e;exact aV e
 |some p=>
  obtain⟨n,c,d⟩:=p
  rw[q]at e
  dsimp only at e
  cases q1:ck c k with
  |plain=>
   rw[q1]at e
   cases q2:H[d]? with
   |none=>rw[q2]at e;exact aV e
   |some o=>
    rw[q2]at e
    cases o with
    |attrs fs=>
     obtain⟨hb,e⟩:=aO e
     obtain⟨h1,h2⟩:=Bool.and_eq_true_iff.mp hb
     exact⟨n,c,d,fs,rfl,q1,q2,Nat.le_of_ble_eq_true h1,Nat.le_of_ble_eq_true h2,Option.some.inj e⟩
    |_=>exact aV e
  |_=>rw[q1]at e;exact aV e
theorem lY{a v:MV}{k:Nat}{H':HH}(e:setAt a k v H=some H'){X V:Value}(B:Bs base fns)(st:bG base h₀){Q:Unit→Shared→Prop}(R:Rel pw w base h₀ L s.heap m news ρ H)
  (hx:aY base ρ H.length news a X)(hv:aY base ρ H.length news v V)(P:iA pw w base h₀ L m ρ news H s H' Q):wpAny (model pw w) A (setAttr X (nm k) V) Q E s:=by
 obtain⟨n,c,d,fs,hi,hc,hd,hk,hl,e⟩:=s8 e
 obtain⟨_,hX,h1,g1,hs,hdl⟩:=nq hi hx R
 obtain⟨f,hf⟩:=nr hs
 obtain⟨K,kin,c1,c2,c3,c4,c5,c6,c7,c8,c9⟩:=B.cls c f hf
 obtain⟨p1,p2⟩:=c8 k hc
 obtain⟨es,n2,m2,r2⟩:=R.attrsAt hd
 rw[hX]
 refine set_dict (n':=putN (nm k) es n2) R.F (BI kin st) R.N (jc g1 (R.N _ m2).1) rfl c4 c5 p2 c6 ?_ rfl (dG R.nd m2) ?_ fun h' F' N'=>(e▸P).turn R hd F' N' (.attrs _ (r2.put hk hv _ _)) _
 ·have q:=r2.get hk
  revert q
  cases dS fs k with
  |none=>intro q;rw[show getL (nm k) es=some none from q];rfl
  |some u=>rintro⟨U,hU,_⟩;rw[hU];rfl
 ·have:=oH (nm k) (PyData.keyHash w.params (nm k)) (.str (nm k) (s.toks+1)) V es
  have:=r2.len
  omega
theorem vy{v:MV}{V:Value}{n c d k f:Nat}{fs:List (Nat×MV)}(B:Bs base fns)(st:bG base h₀)(hk:k<223)(hi:cz H v=some (n,c,d))(hc:ck c k= .meth f)(hd:H[d]? =some (.attrs fs))(hg:dS fs k=none)
  {pl:Sem Bool}{Q:Value×List Value→Shared→Prop}(R:Rel pw w base h₀ L s.heap m news ρ H)(hv:aY base ρ H.length news v V)(P:Q (.ref f,[V]) s):wpAny (model pw w) A (getMethod V (nm k) pl) Q E s:=by
 obtain⟨_,hV,h1,g1,hs,hdl⟩:=nq hi hv R
 obtain⟨f',hf⟩:=nr hs
 obtain⟨K,kin,c1,c2,c3,c4,c5,c6,c7,c8,c9⟩:=B.cls c f' hf
 obtain⟨p1,p2,p3⟩:=c9 k f hc
 obtain⟨es,n2,m2,r2⟩:=R.attrsAt hd
 have q:=r2.get hk
 rw[hg]at q
 rw[hV]at P⊢
 exact method_inst R.F (BI kin st) (jc g1 (R.N _ m2).1) (c7 _) p1 p2 q P
noncomputable def eH(pw:Program)(w:World)(base:Heap)(fns:Nat→Option Fn)(n:Nat):Prop:=
 ∀(fl:Bool)(f:Nat)(args:List MV)(H:HH)(v:MV)(H':HH),ao fns n fl f args H=some (v,H')→
  ∀(A:Around)(s:Shared)(h₀:Heap)(L:Addr)(m:Str→Option Value)(news:Led)(ρ:Nat→Addr)(Vs:List Value)(Q:Value→Shared→Prop),
   yM A n→bG base h₀→Rel pw w base h₀ L s.heap m news ρ H→br base ρ H.length news args Vs→bh pw w base h₀ L m ρ news H s v H' Q→cV fl (model pw w) A (.call (.ref f) ⟨Vs,[]⟩) (rI Q) s
end
structure Here(pw:Program)(w:World)(base:Heap)(n:Nat)(A:Around)(s:Shared)(h₀:Heap)(L:Addr)(m:Str→Option Value)(news:Led)(ρ:Nat→Addr)(H:HH)(cx:Cx)(env:Env)(loc:Loc):Prop where
 A:BH A n
 st:bG base h₀
 EO:dJ cx L env
 R:Rel pw w base h₀ L s.heap m news ρ H
 LO:cL base ρ H.length news cx env m loc
section
variable{w:World}{base:Heap}{n:Nat}{A:Around}{s:Shared}{h₀:Heap}{L:Addr}{m:Str→Option Value}{news news1:Led}{ρ ρ1:Nat→Addr}{H H1 H':HH}{cx:Cx}{env:Env}{loc:Loc}{h1:Heap}{tk1:Nat}{v:MV}{Q:Value→Shared→Prop}
theorem Here.next (h:Here pw w base n A s h₀ L m news ρ H cx env loc)(R1:Rel pw w base h₀ L h1 m news1 ρ1 H1)(x:Ext ρ H.length news ρ1 H1.length news1)(tk1:Nat):
  Here pw w base n A {s with heap:=h1,toks:=tk1} h₀ L m news1 ρ1 H1 cx env loc:=⟨h.A,h.st,h.EO,R1,h.LO.mono x⟩
theorem bh.next (P:bh pw w base h₀ L m ρ news H s v H' Q)(x:Ext ρ H.length news ρ1 H1.length news1)(h1:Heap)(tk1:Nat):bh pw w base h₀ L m ρ1 news1 H1 {s with heap:=h1,toks:=tk1} v H' Q:=
 fun ρ' news' V h' tk R x' hv=>P ρ' news' V h' tk R (x.trans x') hv
noncomputable def fo(pw:Program)(w:World)(base h₀:Heap)(L:Addr)(m:Str→Option Value)(ρ:Nat→Addr)(news:Led)(H:HH)(s:Shared)(b:Bool)(H':HH)(Q:Bool→Shared→Prop):Prop:=
 ∀ρ' news' h' tk,Rel pw w base h₀ L h' m news' ρ' H'→Ext ρ H.length news ρ' H'.length news'→Q b {s with heap:=h',toks:=tk}
theorem fo.next {b:Bool}{Q:Bool→Shared→Prop}(P:fo pw w base h₀ L m ρ news H s b H' Q)(x:Ext ρ H.length news ρ1 H1.length news1)(h1:Heap)(tk1:Nat):fo pw w base h₀ L m ρ1 news1 H1 {s with heap:=h1,toks:=tk1} b H' Q:=
 fun ρ' news' h' tk R x'=>P ρ' news' h' tk R (x.trans x')
noncomputable def rK(pw:Program)(w:World)(base h₀:Heap)(L:Addr)(m:Str→Option Value)(ρ:Nat→Addr)(news:Led)(H:HH)(s:Shared)(vs:List MV)(H':HH)(Q:List Value→Shared→Prop):Prop:=
 ∀ρ' news' Vs h' tk,Rel pw w base h₀ L h' m news' ρ' H'→Ext ρ H.length news ρ' H'.length news'→br base ρ' H'.length news' vs Vs→Q Vs {s with heap:=h',toks:=tk}
end
section
variable(pw:Program)(w:World)(base:Heap)(fns:Nat→Option Fn)(n:Nat)
noncomputable def gI(cx:Cx)(e:Expr)(ie:IE):Prop:= ∀ ⦃fl:Bool⦄ ⦃loc:Loc⦄ ⦃H:HH⦄ ⦃v:MV⦄ ⦃H':HH⦄,bo (ao fns n) fl ie loc H=some (v,H')→
 ∀ ⦃env:Env⦄ ⦃A:Around⦄ ⦃s:Shared⦄ ⦃h₀:Heap⦄ ⦃L:Addr⦄ ⦃m:Str→Option Value⦄ ⦃news:Led⦄ ⦃ρ:Nat→Addr⦄ ⦃Q:Value→Shared→Prop⦄,
  Here pw w base n A s h₀ L m news ρ H cx env loc→bh pw w base h₀ L m ρ news H s v H' Q→wpP fl (model pw w) A (eval e env) Q s
noncomputable def SE(k:Nat):Prop:= ∀{cx:Cx}{e:Expr}{ie:IE},bB k cx e ie=true→gI pw w base fns n cx e ie
noncomputable def G7 (cx:Cx)(e:Expr)(ie:IE):Prop:= ∀ ⦃fl:Bool⦄ ⦃loc:Loc⦄ ⦃H:HH⦄ ⦃b:Bool⦄ ⦃H':HH⦄,bo (ao fns n) fl ie loc H=some (.bool b,H')→
 ∀ ⦃env:Env⦄ ⦃A:Around⦄ ⦃s:Shared⦄ ⦃h₀:Heap⦄ ⦃L:Addr⦄ ⦃m:Str→Option Value⦄ ⦃news:Led⦄ ⦃ρ:Nat→Addr⦄ ⦃Q:Bool→Shared→Prop⦄,
  Here pw w base n A s h₀ L m news ρ H cx env loc→fo pw w base h₀ L m ρ news H s b H' Q→wpP fl (model pw w) A (isTrue e env (eval e env)) Q s
noncomputable def ST(k:Nat):Prop:= ∀{cx:Cx}{e:Expr}{ie:IE},bB k cx e ie=true→G7 pw w base fns n cx e ie
noncomputable def SL(k:Nat):Prop:= ∀{cx:Cx}{es:List Expr}{ies:gy},dy k cx es ies=true→ ∀{fl:Bool}{loc:Loc}{H:HH}{vs:List MV}{H':HH},dT (ao fns n) fl ies loc H=some (vs,H')→
 ∀{env:Env}{A:Around}{s:Shared}{h₀:Heap}{L:Addr}{m:Str→Option Value}{news:Led}{ρ:Nat→Addr}{Q:List Value→Shared→Prop}(pos:Pos),
  Here pw w base n A s h₀ L m news ρ H cx env loc→rK pw w base h₀ L m ρ news H s vs H' Q→wpP fl (model pw w) A (spliced (backTo pos (starEach es env))) Q s
noncomputable def SB(k:Nat):Prop:= ∀{cx:Cx}{op:BoolOp}{es:List Expr}{ie:IE},sG k cx op es ie=true→ ∀{fl:Bool}{loc:Loc}{H:HH}{v:MV}{H':HH},bo (ao fns n) fl ie loc H=some (v,H')→
 ∀{env:Env}{A:Around}{s:Shared}{h₀:Heap}{L:Addr}{m:Str→Option Value}{news:Led}{ρ:Nat→Addr}{Q:Value→Shared→Prop}(pos:Pos),
  Here pw w base n A s h₀ L m news ρ H cx env loc→bh pw w base h₀ L m ρ news H s v H' Q→wpP fl (model pw w) A (boolOp pos op (evalEach es env)) Q s
noncomputable def De(k:Nat):Prop:= ∀{cx:Cx}{op:BoolOp}{es:List Expr}{ie:IE},sG k cx op es ie=true→ ∀{fl:Bool}{loc:Loc}{H:HH}{b:Bool}{H':HH},bo (ao fns n) fl ie loc H=some (.bool b,H')→
 ∀{env:Env}{A:Around}{s:Shared}{h₀:Heap}{L:Addr}{m:Str→Option Value}{news:Led}{ρ:Nat→Addr}{Q:Bool→Shared→Prop},
  Here pw w base n A s h₀ L m news ρ H cx env loc→fo pw w base h₀ L m ρ news H s b H' Q→wpP fl (model pw w) A (allTrue op es env) Q s
noncomputable def SO(k:Nat):Prop:= ∀{cx:Cx}{e:Option Expr}{ie:IE},AZ k cx e ie=true→ ∀{fl:Bool}{loc:Loc}{H:HH}{v:MV}{H':HH},bo (ao fns n) fl ie loc H=some (v,H')→
 ∀{env:Env}{A:Around}{s:Shared}{h₀:Heap}{L:Addr}{m:Str→Option Value}{news:Led}{ρ:Nat→Addr}{Q:Value→Shared→Prop},
  Here pw w base n A s h₀ L m news ρ H cx env loc→bh pw w base h₀ L m ρ news H s v H' Q→wpP fl (model pw w) A (evalPart e env) Q s
end
section
variable{w:World}{K:Frag}{base:Heap}{n k:Nat}{A:Around}{s:Shared}{h₀:Heap}{L:Addr}{m:Str→Option Value}{news:Led}{ρ:Nat→Addr}{H H':HH}{cx:Cx}{env:Env}{loc:Loc}{fl:Bool}{v:MV}{Q:Value→Shared→Prop}
theorem aD{α β γ:Type}{x:Option (α×β)}{f:α→β→Option γ}{r:γ}(h:eX x f=some r):dk fun a b=>x=some (a,b)∧f a b=some r:=by
 cases x with
 |none=>exact aV h
 |some p=>exact⟨p.1,p.2,rfl,h⟩
theorem kB{γ:Type}{x:Option (Option MV)}{z:Option γ}{f:MV→Option γ}{r:γ}(h:Dw x z f=some r):(x=some none∧z=some r)∨ ∃v,x=some (some v)∧f v=some r:=by
 cases x with
 |none=>exact aV h
 |some o=>
  cases o with
  |none=>exact .inl ⟨rfl,h⟩
  |some v=>exact .inr ⟨v,rfl,h⟩
theorem dc{β γ:Type}{x:Option (MV×β)}{f g:β→Option γ}{r:γ}(h:ud x f g=some r):(∃b,x=some (.bool true,b)∧f b=some r)∨ ∃b,x=some (.bool false,b)∧g b=some r:=by
 cases x with
 |none=>exact aV h
 |some p=>
  obtain⟨v,y⟩:=p
  cases v with
  |bool c=>
   cases c with
   |true=>exact .inl ⟨y,rfl,h⟩
   |false=>exact .inr ⟨y,rfl,h⟩
  |_=>exact aV h
theorem cp{α β:Type}{a c:α}{b d:β}(h:some (a,b)=some (c,d)):a=c∧b=d:=Prod.mk.inj (Option.some.inj h)
theorem vz{v r:MV}{H1 H':HH}(h:(match v with| .int i=>some (.int (-i),H1)|_=>none:Option (MV×HH))=some (r,H')): ∃i,v= .int i∧some (MV.int (-i),H1)=some (r,H'):=by
 cases v with
 |int i=>exact⟨i,rfl,h⟩
 |_=>exact aV h
theorem Ek(I:SE pw w base fns n k){l r:Expr}{op:Operator}{o:fz}{a b:IE}{pos:Pos}(ho:j3 op=some o)(c1:bB k cx l a=true)(c2:bB k cx r b=true):gI pw w base fns n cx (.BinOp l op r pos) (.bin o a b):=by
 intro fl loc H v H' e env A s h₀ L m news ρ Q h P
 obtain⟨x,H1,e1,e⟩:=aD e
 obtain⟨y,H2,e2,e⟩:=aD e
 rw[arm_eval_BinOp]
 refine aj (I c1 e1 h fun ρ1 news1 X h1 tk1 R1 x1 hX=> ?_)
 refine aj (aE (I c2 e2 (h.next R1 x1 tk1) fun ρ2 news2 Y h2 tk2 R2 x2 hY=> ?_))
 refine aj (aG (ew (aL ?_)))
 exact Ee ho e R2 (hX.mono x2) hY (P.next (x1.trans x2) _ _)
theorem BJ(I:SE pw w base fns n k){l r:Expr}{op:CmpOp}{o:jY}{a b:IE}{pos:Pos}(B:Bs base fns)(ho:nY op=some o)(c1:bB k cx l a=true)(c2:bB k cx r b=true)(hm:behindInMarks op r=false)
  (e:bo (ao fns n) fl (.cmp o a b) loc H=some (v,H'))(h:Here pw w base n A s h₀ L m news ρ H cx env loc)(P:bh pw w base h₀ L m ρ news H s v H' Q):
  wpP fl (model pw w) A (do compareChain pos (←eval l env) [op] (markedEach [op] [r] (evalEach [r] env))) Q s:=by
 obtain⟨x,H1,e1,e⟩:=aD e
 obtain⟨y,H2,e2,e⟩:=aD e
 obtain⟨b,e3,e⟩:=Option.map_eq_some_iff.mp e
 replace P:=P.at (congrArg some e)
 rw[show markedEach [op] [r] (evalEach [r] env)=[eval r env]from congrArg (· ::[]) (markedBehindIn_of_false hm)]
 refine aj (I c1 e1 h fun ρ1 news1 X h1 tk1 R1 x1 hX=> ?_)
 refine aj (aE (I c2 e2 (h.next R1 x1 tk1) fun ρ2 news2 Y h2 tk2 R2 x2 hY=> ?_))
 refine aj (aG (ew (aL ?_)))
 exact Ai ho e3 R2 (vx B h.st) (GO h.A.un rfl) (hX.mono x2) hY (P.next (x1.trans x2) _ _)
theorem El(I:SE pw w base fns n k){l r:Expr}{op:CmpOp}{o:jY}{a b:IE}{pos:Pos}(B:Bs base fns)(ho:nY op=some o)(c1:bB k cx l a=true)(c2:bB k cx r b=true)(hm:behindInMarks op r=false)
  (e:bo (ao fns n) fl (.cmp o a b) loc H=some (v,H'))(h:Here pw w base n A s h₀ L m news ρ H cx env loc)(P:bh pw w base h₀ L m ρ news H s v H' Q):
  wpP fl (model pw w) A (eval (.Compare l [op] [r] pos) env) Q s:=by
 rw[arm_eval_Compare]
 exact BJ I B ho c1 c2 hm e h P
theorem Em(I:SE pw w base fns n k){l r:Expr}{op:CmpOp}{o:jY}{a b:IE}{pos:Pos}{c:Bool}{Q:Bool→Shared→Prop}(B:Bs base fns)(ho:nY op=some o)(c1:bB k cx l a=true)(c2:bB k cx r b=true)(hm:behindInMarks op r=false)
  (e:bo (ao fns n) fl (.cmp o a b) loc H=some (.bool c,H'))(h:Here pw w base n A s h₀ L m news ρ H cx env loc)(P:fo pw w base h₀ L m ρ news H s c H' Q)(whole:Sem Value):
  wpP fl (model pw w) A (isTrue (.Compare l [op] [r] pos) env whole) Q s:=by
 rw[arm_isTrue_Compare]
 obtain⟨x,H1,e1,e⟩:=aD e
 obtain⟨y,H2,e2,e⟩:=aD e
 obtain⟨b,e3,e⟩:=Option.map_eq_some_iff.mp e
 obtain⟨e,e'⟩:=Prod.mk.inj e
 rw[MV.bool.inj e]at e3
 rw[←e']at P
 rw[show markedEach [op] [r] (evalEach [r] env)=[eval r env]from congrArg (· ::[]) (markedBehindIn_of_false hm)]
 refine aj (I c1 e1 h fun ρ1 news1 X h1 tk1 R1 x1 hX=> ?_)
 refine aj (aE (I c2 e2 (h.next R1 x1 tk1) fun ρ2 news2 Y h2 tk2 R2 x2 hY=> ?_))
 refine aj (aG (aj (ew (aL ?_))))
 refine Ai (E:=fun _ _=>False) ho e3 R2 (vx B h.st) (GO h.A.un rfl) (hX.mono x2) hY fun ρ3 news3 Z h3 tk3 R3 x3 hZ=> ?_
 rw[hZ.boolInv]
 exact aE (aL (wpAny_truthy_bool (P _ _ _ _ R3 ((x1.trans x2).trans x3))))
theorem rL{β:Type}{x:Option (MV×β)}{v:MV}{H':β}(h:ud x (fun H1=>some (.bool false,H1)) (fun H1=>some (.bool true,H1))=some (v,H')): ∃b,x=some (.bool b,H')∧v= .bool (!b):=by
 rcases dc h with⟨H1,e1,e⟩|⟨H1,e1,e⟩
 ·exact⟨true,by rw[e1,(cp e).2],(cp e).1.symm⟩
 ·exact⟨false,by rw[e1,(cp e).2],(cp e).1.symm⟩
theorem En(I:SE pw w base fns n k){x:Expr}{a:IE}{pos:Pos}(c1:bB k cx x a=true):gI pw w base fns n cx (.UnaryOp .Not x pos) (.not a):=by
 intro fl loc H v H' e env A s h₀ L m news ρ Q h P
 obtain⟨b,e1,e⟩:=rL e
 rw[e]at P
 rw[arm_eval_UnaryOp]
 refine aj (I c1 e1 h fun ρ1 news1 X h1 tk1 R1 x1 hX=> ?_)
 rw[hX.boolInv]
 refine aj (aG (aE (aL ?_)))
 exact wpAny_holding (wpAny_pure (P _ _ _ _ _ R1 x1 (.bool _)))
theorem Eo(I:ST pw w base fns n k){x:Expr}{a:IE}{pos:Pos}{c:Bool}{Q:Bool→Shared→Prop}(c1:bB k cx x a=true)(e:bo (ao fns n) fl (.not a) loc H=some (.bool c,H'))
  (h:Here pw w base n A s h₀ L m news ρ H cx env loc)(P:fo pw w base h₀ L m ρ news H s c H' Q)(whole:Sem Value):wpP fl (model pw w) A (isTrue (.UnaryOp .Not x pos) env whole) Q s:=by
 obtain⟨b,e1,e⟩:=rL e
 rw[MV.bool.inj e]at P
 show wpP fl _ _ (do return !(←isTrue x env (eval x env))) Q s
 exact aj (I c1 e1 h fun ρ1 news1 h1 tk1 R1 x1=>ay (P _ _ _ _ R1 x1))
theorem BL(I:SE pw w base fns n k){x:Expr}{a:IE}{pos:Pos}(c1:bB k cx x a=true):gI pw w base fns n cx (.UnaryOp .USub x pos) (.usub a):=by
 intro fl loc H v H' e env A s h₀ L m news ρ Q h P
 obtain⟨y,H1,e1,e⟩:=aD e
 obtain⟨i,hi,e⟩:=vz e
 replace P:=P.at e
 rw[hi]at e1
 rw[arm_eval_UnaryOp]
 refine aj (I c1 e1 h fun ρ1 news1 X h1 tk1 R1 x1 hX=> ?_)
 obtain⟨t,hX⟩:=hX.intInv
 rw[hX]
 exact aj (aG (aE (aL (neg_int (P _ _ _ _ _ R1 x1 (.int _ _))))))
theorem Ep(I:SE pw w base fns n k)(T:ST pw w base fns n k){t x y:Expr}{t' a b:IE}{pos:Pos}(c0:bB k cx t t'=true)(c1:bB k cx x a=true)(c2:bB k cx y b=true):gI pw w base fns n cx (.IfExp t x y pos) (.ife t' a b):=by
 intro fl loc H v H' e env A s h₀ L m news ρ Q h P
 rw[arm_eval_IfExp]
 rcases dc e with⟨H1,e1,e⟩|⟨H1,e1,e⟩
 ·refine aj (T c0 e1 h fun ρ1 news1 h1 tk1 R1 x1=> ?_)
  exact I c1 e (h.next R1 x1 tk1) (P.next x1 _ _)
 ·refine aj (T c0 e1 h fun ρ1 news1 h1 tk1 R1 x1=> ?_)
  exact I c2 e (h.next R1 x1 tk1) (P.next x1 _ _)
theorem Er(T:ST pw w base fns n k){t x y:Expr}{t' a b:IE}{pos:Pos}{c:Bool}{Q:Bool→Shared→Prop}(c0:bB k cx t t'=true)(c1:bB k cx x a=true)(c2:bB k cx y b=true)(e:bo (ao fns n) fl (.ife t' a b) loc H=some (.bool c,H'))
  (h:Here pw w base n A s h₀ L m news ρ H cx env loc)(P:fo pw w base h₀ L m ρ news H s c H' Q)(whole:Sem Value):wpP fl (model pw w) A (isTrue (.IfExp t x y pos) env whole) Q s:=by
 rw[arm_isTrue_IfExp]
 rcases dc e with⟨H1,e1,e⟩|⟨H1,e1,e⟩
 ·refine aj (T c0 e1 h fun ρ1 news1 h1 tk1 R1 x1=> ?_)
  exact T c1 e (h.next R1 x1 tk1) (P.next x1 _ _)
 ·refine aj (T c0 e1 h fun ρ1 news1 h1 tk1 R1 x1=> ?_)
  exact T c2 e (h.next R1 x1 tk1) (P.next x1 _ _)
theorem fq{o:Expr}(hn:dE o=true)(name:Str)(whole:Sem Value):attributeBase o name env whole=whole:=by
 cases o with
 |Call f args kws p=>
  cases f with
  |Name x q=>
   cases args with
   |nil=>
    cases kws with
    |nil=>exact bF hn
    |cons=>rfl
   |cons=>rfl
  |_=>rfl
 |_=>rfl
theorem vA{v:MV}{H1:HH}{j:Nat}{call:eZ}{r:MV×HH}(e:(match cz H1 v with
  |some (_,c,d)=>match ck c j with
   | .prop f=>call false f [v] H1
   | .plain=>match H1[d]? with
    |some (.attrs fs)=>(dS fs j).map fun r=>(r,H1)
    |_=>none
   |_=>none
  |none=>none)=some r)(np: ∀c g,ck c j≠ .prop g):zZ fun i c d fs u=>nV (cz H1 v=some (i,c,d)) (ck c j= .plain) (H1[d]? =some (.attrs fs)) (dS fs j=some u) ((u,H1)=r):=by
 cases q:cz H1 v with
 |none=>rw[q]at e;exact aV e
 |some p=>
  obtain⟨i,c,d⟩:=p
  rw[q]at e
  dsimp only at e
  cases q1:ck c j with
  |prop g=>exact absurd q1 (np c g)
  |plain=>
   rw[q1]at e
   dsimp only at e
   cases q2:H1[d]? with
   |none=>rw[q2]at e;exact aV e
   |some o=>
    rw[q2]at e
    cases o with
    |attrs fs=>obtain⟨u,h1,h2⟩:=Option.map_eq_some_iff.mp e;exact⟨i,c,d,fs,u,rfl,q1,q2,h1,h2⟩
    |_=>exact aV e
  |_=>rw[q1]at e;exact aV e
theorem BM(I:SE pw w base fns n k)(C:eH pw w base fns n)(B:Bs base fns){o:Expr}{io:IE}{j:Nat}{pos:Pos}(hj:j<223)(hn:dE o=true)(c1:bB k cx o io=true):gI pw w base fns n cx (.Attribute o (nm j) pos) (.attr io j):=by
 intro fl loc H v H' e env A s h₀ L m news ρ Q h P
 obtain⟨x,H1,e1,e⟩:=aD e
 rw[arm_eval_Attribute,fq hn]
 refine aj (I c1 e1 h fun ρ1 news1 X h1 tk1 R1 x1 hX=> ?_)
 refine aj (aG (aj (aE (aL ?_))))
 have P':bh pw w base h₀ L m ρ1 news1 H1 {s with heap:=h1,toks:=tk1} v H' (fun r s'=>wpP fl (model pw w) A (letTemporaryGo o X r>>=fun _=>pure r) Q s'):=fun ρ2 news2 V h2 tk2 R2 x2 hV=>
  aT (wpAny_letTemporaryGo (ay (P _ _ _ _ _ R2 (x1.trans x2) hV)))
 obtain⟨i,c,d,fs,u,hi,hc,hd,hr,e⟩:=vA e (fun c g=>B.noProp c j g)
 exact rJ B h.st hj hi hc hd hr R1 hX (P'.at (congrArg some e))
theorem Es(I:SE pw w base fns n k){o i:Expr}{a b:IE}{pos:Pos}(hs:f6 i=true)(c1:bB k cx o a=true)(c2:bB k cx i b=true):gI pw w base fns n cx (.Subscript o i pos) (.sub a b):=by
 intro fl loc H v H' e env A s h₀ L m news ρ Q h P
 obtain⟨x,H1,e1,e⟩:=aD e
 obtain⟨y,H2,e2,e⟩:=aD e
 obtain⟨r,hr,e⟩:=Option.map_eq_some_iff.mp e
 replace P:=P.at (congrArg some e)
 rw[arm_eval_Subscript]
 refine aj (I c1 e1 h fun ρ1 news1 X h1 tk1 R1 x1 hX=> ?_)
 refine aj (aE (I c2 e2 (h.next R1 x1 tk1) fun ρ2 news2 Y h2 tk2 R2 x2 hY=> ?_))
 refine aj (aG (aL ?_))
 exact Eg (value:=o) (slice:=i) hr (vw h.st R2) R2 (hX.mono x2) hY (P.next (x1.trans x2) _ _) (by
  cases i with
  |Slice=>exact bF hs
  |_=>rfl)
theorem Et(I:SE pw w base fns n k)(O:SO pw w base fns n k){o:Expr}{lo hi:Option Expr}{a l u:IE}{p pos:Pos}(c1:bB k cx o a=true)(c2:AZ k cx lo l=true)(c3:AZ k cx hi u=true):gI pw w base fns n cx (.Subscript o (.Slice lo hi none p) pos) (.slc a l u):=by
 intro fl loc H v H' e env A s h₀ L m news ρ Q h P
 obtain⟨x,H1,e1,e⟩:=aD e
 obtain⟨y,H2,e2,e⟩:=aD e
 obtain⟨z,H3,e3,e⟩:=aD e
 rw[arm_eval_Subscript]
 refine aj (I c1 e1 h fun ρ1 news1 X h1 tk1 R1 x1 hX=> ?_)
 refine aj (aE ?_)
 rw[arm_eval_Slice]
 refine aj (O c2 e2 (h.next R1 x1 tk1) fun ρ2 news2 Y h2 tk2 R2 x2 hY=> ?_)
 refine aj (aE (O c3 e3 (h.next R2 (x1.trans x2) tk2) fun ρ3 news3 Z h3 tk3 R3 x3 hZ=> ?_))
 show wpP fl _ _ (holding [Y,Z] (pure Value.none)>>=fun s=>newFields "slice" [Y,Z,s]) _ _
 refine aj (aE (ay (aL (wpAny_newObj_type ?_ (by show(#[Y,Z,Value.none]:Array Value).size≤_;simp only[List.size_toArray,List.length_cons,List.length_nil];rw[sizeLine_eq];decide)))))
 refine aj (aG (aL ?_))
 exact Ei (s:={s with heap:=h3,toks:=tk3}) (value:=o) (slice:= .Slice lo hi none p) e R3 (hX.mono (x2.trans x3)) (hY.mono x3) hZ (P.next ((x1.trans x2).trans x3) _ _) rfl
end
end Mine.Internal
end
section
namespace Mine.Internal
open PySem PySem.Spec PySem.Calls PyProof.Rows PySem.W PySem.SeqAt
open Sem (wp)
section
variable{b:Bool}{M:Model}{A:Around}{s:Shared}{env:Env}{K:Frag}
theorem vB{α:Type}{vs:List Value}{m:Sem α}{Q:α→Shared→Prop}(h:wpP b M A m Q s):wpP b M A (m.keep vs) Q s:=fun Γ p hΓ hb=>by rw[Sem.wp_keep];exact h Γ p hΓ hb
noncomputable def isStar:Expr→Bool
 | .Starred .. =>true
 |_=>false
noncomputable def noStar:List Expr→Prop
 |[]=>True
 |e::r=>isStar e=false∧noStar r
theorem eO{e:Expr}{r:List Expr}(h:noStar (e::r)):starEach (e::r) env=(false,eval e env)::starEach r env:=by
 cases e with
 |Starred=>exact bF h.1.symm
 |_=>rfl
theorem lZ{e:Expr}{r:List Expr}(h:noStar (e::r)):noStar r:=h.2
theorem kC{pos:Pos}: ∀{es:List Expr},noStar es→(backTo pos (starEach es env)).any (·.1)=false
 |[],_=>rfl
 |e::r,h=>by
  rw[eO h]
  show(false||(backTo pos (starEach r env)).any (·.1))=false
  rw[kC (lZ h)];rfl
theorem qt{f:Value}{pos:Pos}{es:List Expr}{Q:Args→Shared→Prop}(hn:noStar es)(h:wpP b M A (spliced (backTo pos (starEach es env))) (fun vs s'=>Q ⟨vs,[]⟩ s') s):
  wpP b M A (evalArgs f true (backTo pos (starEach es env)) []) Q s:=by
 unfold evalArgs
 cases es with
 |nil=>
  show wpP b M A (spliced []>>=_) Q s
  refine aj (dH h fun vs s' h'=> ?_)
  refine aE ?_
  exact aj (ay (aj (ay (ay h'))))
 |cons e r=>
  rw[eO hn]at h⊢
  show wpP b M A (spliced ((false,eval e env)::backTo pos (starEach r env))>>=_) Q s
  refine aj (dH h fun vs s' h'=> ?_)
  refine aE ?_
  exact aj (ay (aj (ay (ay h'))))
noncomputable def nt(K:Frag):Value→Bool
 | .ref a=>keepIn K (.ref a)
 |_=>true
theorem s9 {f:Value}(hk:nt K f=true)(h:Heap)(X:K.In h): ∃k,(k=Keeper.frame∨k=Keeper.machine∨k=Keeper.boundFrame)∧Looks M h (keeperOf f) k:=by
 cases f with
 |ref a=>exact keeps_K (f:= .ref a) (show keepIn K (.ref a)=true from hk) h X
 |_=>exact⟨.machine,.inr (.inl rfl),Looks.of_pure rfl⟩
theorem d9 {f:Value}{first:List Value}{pos pos':Pos}{es:List Expr}{Q:Value→Shared→Prop}(hn:noStar es)(hk:nt K f=true)
  (h:wpP b M A (spliced (backTo pos' (starEach es env))) (fun vs s'=>K.In s'.heap∧wpP b M A (call f (first++vs) []) Q s') s):
  wpP b M A (callWith pos f first (backTo pos' (starEach es env)) []) Q s:=by
 unfold callWith
 refine aj (aE (qt hn (dH h fun vs s₁ h₁=>aj (aG ?_))))
 obtain⟨k,hk',L⟩:=s9 (M:=M) hk _ h₁.1
 rw[kC hn]
 refine eT L ?_
 have tail: ∀{t:Sem Value},wpP b M A t Q s₁→wpP b M A (t>>=fun r=>holding [r] point>>=fun _=>pure r) Q s₁:=
  fun ht=>aj (dH ht fun r s₂ hr=>aj (aE (aL (wpAny_point (ay hr)))))
 have marked (mk:Value):wpP b M A (callMarked mk f (first++vs) []) Q s₁:=by unfold callMarked;exact vB h₁.2
 rcases hk' with rfl|rfl|rfl<;>first|exact tail h₁.2|(refine vn ?_ ?_;exact tail h₁.2;exact tail (marked _))
theorem ft{x:Sem Value}{rest:List (Bool×Sem Value)}{Q:List Value→Shared→Prop}(h:wpP b M A x (fun v s'=>wpP b M A (spliced rest) (fun vs s''=>Q (v::vs) s'') s') s):wpP b M A (spliced ((false,x)::rest)) Q s:=by
 unfold spliced
 refine aj (dH h fun v s' h'=> ?_)
 refine aj (ay ?_)
 exact aj (aE (dH h' fun vs s'' h''=>ay h''))
end
section
variable{w:World}{K:Frag}{base:Heap}{n k:Nat}{A:Around}{s:Shared}{h₀:Heap}{L:Addr}{m:Str→Option Value}{news:Led}{ρ:Nat→Addr}{H H':HH}{cx:Cx}{env:Env}{loc:Loc}{fl:Bool}{v:MV}{Q:Value→Shared→Prop}
theorem kD{k:Nat}{e:Expr}{ie:IE}(h:bB k cx e ie=true):isStar e=false:=by
 cases e with
 |Starred=>
  cases k with
  |zero=>exact bF h
  |succ k=>exact bF h
 |_=>rfl
theorem gh{k:Nat}{es:List Expr}{ies:gy}(h:dy (k+1) cx es ies=true):(es=[]∧ies= .nil)∨jM fun e r a q=>cC (es=e::r) (ies= .cons a q) (bB k cx e a=true) (dy k cx r q=true):=by
 cases es with
 |nil=>
  cases ies with
  |nil=>exact .inl ⟨rfl,rfl⟩
  |cons=>exact bF h
 |cons e r=>
  cases ies with
  |nil=>exact bF h
  |cons a q=>exact .inr ⟨e,r,a,q,rfl,rfl,(dI h).1,(dI h).2⟩
theorem cM{k:Nat}: ∀{es:List Expr}{ies:gy},dy k cx es ies=true→noStar es:=by
 induction k with
 |zero=>intro es ies h;exact bF h
 |succ k ih=>
  intro es ies h
  rcases gh h with⟨e,_⟩|⟨e,r,a,q,e1,_,h1,h2⟩
  ·rw[e];exact trivial
  ·rw[e1];exact⟨kD h1,ih h2⟩
theorem Eu{es:List Expr}(he:es=[]){H':HH}{vs:List MV}(e:dT (ao fns n) fl .nil loc H=some (vs,H'))(pos:Pos){Q:List Value→Shared→Prop}
  (h:Here pw w base n A s h₀ L m news ρ H cx env loc)(P:rK pw w base h₀ L m ρ news H s vs H' Q):wpP fl (model pw w) A (spliced (backTo pos (starEach es env))) Q s:=by
 obtain⟨e1,e2⟩:=cp e
 rw[he]
 rw[←e1,←e2]at P
 exact ay (P ρ news [] s.heap s.toks h.R .refl .nil)
theorem BN(I:SE pw w base fns n k)(J:SL pw w base fns n k){x:Expr}{r:List Expr}{a:IE}{q:gy}(c1:bB k cx x a=true)(c2:dy k cx r q=true){vs:List MV}(e:dT (ao fns n) fl (.cons a q) loc H=some (vs,H'))(pos:Pos){Q:List Value→Shared→Prop}
  (h:Here pw w base n A s h₀ L m news ρ H cx env loc)(P:rK pw w base h₀ L m ρ news H s vs H' Q):wpP fl (model pw w) A (spliced (backTo pos (starEach (x::r) env))) Q s:=by
 obtain⟨y,H1,e1,e⟩:=aD e
 obtain⟨ys,H2,e2,e⟩:=aD e
 obtain⟨e3,e4⟩:=cp e
 rw[←e3,←e4]at P
 rw[eO (e:=x) (r:=r) ⟨kD c1,cM c2⟩]
 show wpP fl _ _ (spliced ((false,eval x env)::backTo pos (starEach r env))) Q s
 refine ft (I c1 e1 h fun ρ1 news1 X h1 tk1 R1 x1 hX=> ?_)
 exact J c2 e2 pos (h.next R1 x1 tk1) fun ρ2 news2 Vs h2 tk2 R2 x2 hV=>P _ _ _ _ _ R2 (x1.trans x2) (.cons (hX.mono x2) hV)
theorem Ew(J:SL pw w base fns n k){es:List Expr}{as:gy}{pos:Pos}(c1:dy k cx es as=true)(e:bo (ao fns n) fl (.tup as) loc H=some (v,H'))
  (h:Here pw w base n A s h₀ L m news ρ H cx env loc)(P:bh pw w base h₀ L m ρ news H s v H' Q):wpP fl (model pw w) A (do standAt pos;newTuple (←spliced (backTo pos (starEach es env)))) Q s:=by
 obtain⟨vs,H1,e1,e⟩:=aD e
 obtain⟨hz,e⟩:=aO e
 have hz:=Nat.le_of_ble_eq_true hz
 replace P:=P.at e
 refine aj (aG (aj (J c1 e1 pos h fun ρ1 news1 Vs h1 tk1 R1 x1 hV=> ?_)))
 have hl:=hV.length
 refine aL (newTuple_N R1.F R1.N (fun h' F' N'=> ?_) (by rw[hl,sizeLine_eq];exact oj (by assumption)))
 exact(P.next x1 h1 tk1).tuple (k:=0) R1 F' N' (fun p hp=>Heap.lt_size (R1.N p hp).1) hV _
theorem Ex(J:SL pw w base fns n k){es:List Expr}{as:gy}{pos:Pos}(c1:dy k cx es as=true):gI pw w base fns n cx (.List es pos) (.lst as):=by
 intro fl loc H v H' e env A s h₀ L m news ρ Q h P
 obtain⟨vs,H1,e1,e⟩:=aD e
 obtain⟨hz,e⟩:=aO e
 have hz:=Nat.le_of_ble_eq_true hz
 replace P:=P.at e
 rw[arm_eval_List]
 refine aj (aG (aj (J c1 e1 pos h fun ρ1 news1 Vs h1 tk1 R1 x1 hV=> ?_)))
 have hl:=hV.length
 refine aL (newList_N R1.F R1.N (fun h' F' N'=> ?_) (by rw[hl,sizeLine_eq];exact oj (by assumption)))
 exact(P.next x1 h1 tk1).alloc R1 F' N' (fun p hp=>Heap.lt_size (R1.N p hp).1) (.list 0 hV) _
theorem BO(J:SL pw w base fns n k)(C:eH pw w base fns n)(B:Bs base fns){f:Str}{g:Nat}{args:List Expr}{as:gy}{p pos:Pos}(hc:dn cx f (.fn g)=true)(c1:dy k cx args as=true):gI pw w base fns n cx (.Call (.Name f p) args [] pos) (.call g as):=by
 intro fl loc H v H' e env A s h₀ L m news ρ Q h P
 obtain⟨vs,H1,e1,e⟩:=aD e
 show wpP fl _ _ (do callWith pos (←eval (.Name f p) env) [] (backTo pos (starEach args env)) []) Q s
 refine aT (iF B h.st hc h.EO h.R fun V hV=> ?_)
 rw[show V=_ from hV.inv]
 obtain⟨K,kin,hkeep⟩:=B.keepG f _ (dI hc).2 g (.inl rfl)
 refine d9 (K:=K) (cM c1) hkeep (J c1 e1 pos h fun ρ1 news1 Vs h1 tk1 R1 x1 hV=>⟨?_,?_⟩)
 ·exact fun a o z=>h.st.now R1 _ _ (kin a o z)
 ·refine da (C fl g vs H1 v H' e _ _ h₀ L m news1 ρ1 _ _ h.A.call h.st R1 hV ?_)
  exact P.next x1 h1 tk1
theorem yP{β:Type}{c:Nat}{f:Nat→Option β}{r:β}(e:(match dC dW c with|some g=>f g|none=>none)=some r): ∃g,dC dW c=some g∧f g=some r:=by
 cases q:dC dW c with
 |none=>rw[q]at e;exact aV e
 |some g=>rw[q]at e;exact⟨g,rfl,e⟩
theorem none_inv{β:Type}{v:MV}{x:Option β}{r:β}(e:(match v with| .none=>x|_=>none)=some r):v= .none∧x=some r:=by
 cases v with
 |none=>exact⟨rfl,e⟩
 |_=>exact aV e
theorem vC{h':Heap}{x dx:Addr}{c:Nat}{ρ1:Nat→Addr}{news1:Led}{H1:HH}{h1:Heap}(R1:Rel pw w base h₀ L h1 m news1 ρ1 H1)(F':Fr h₀ L h' m)(N':News h₀ L h' ((x,instObj c dx)::(dx,emptyDict)::news1))(hlt: ∀q∈news1,q.1<dx)(hdx:dx<x)
  (hc:(dC dW c).isSome=true):dk fun ρ3 news3=>bx (Rel pw w base h₀ L h' m news3 ρ3 (H1++[MO.attrs [],MO.inst c H1.length])) (Ext ρ1 H1.length news1 ρ3 (H1++[MO.attrs [],MO.inst c H1.length]).length news3) (aY base ρ3 (H1++[MO.attrs [],MO.inst c H1.length]).length news3 (.ref (H1.length+1)) (.ref x)):=by
 have hd:dx∉news1.map (·.1):=fun hm=>by
  obtain⟨q,hq,z⟩:=List.mem_map.mp hm
  exact Nat.lt_irrefl _ (z▸hlt q hq)
 have hx:x∉((dx,emptyDict)::news1).map (·.1):=fun hm=>by
  rcases List.mem_cons.mp hm with z|z
  ·exact absurd z (Nat.ne_of_gt hdx)
  ·obtain⟨q,hq,z⟩:=List.mem_map.mp z
   exact absurd (Nat.lt_trans (z▸hlt q hq) hdx) (Nat.lt_irrefl _)
 obtain⟨Ra,xa⟩:=R1.alloc (c:= .attrs []) F' (fun q hq=>N' q (.tail _ hq)) hd (.attrs 0 .nil)
 have hl1:(H1++[MO.attrs []]).length=H1.length+1:=List.length_append
 have okI:=iy.inst (pw:=pw) (w:=w) (base:=base) (ρ:=upd ρ1 H1.length dx) (N:=(H1++[MO.attrs []]).length) (news:=(dx,emptyDict)::news1) c H1.length (hl1▸Nat.lt_succ_self _) hc
 rw[bV]at okI
 obtain⟨Rb,xb⟩:=Ra.alloc F' N' hx okI
 rw[show H1++[MO.attrs []]++[MO.inst c H1.length]=H1++[MO.attrs [],MO.inst c H1.length]from List.append_assoc ..]at Rb xb
 refine⟨_,_,Rb,xa.trans xb,?_⟩
 have q:=aY.ref (base:=base) (ρ:=upd (upd ρ1 H1.length dx) (H1++[MO.attrs []]).length x) (N:=(H1++[MO.attrs [],.inst c H1.length]).length) (news:=(x,instObj c dx)::(dx,emptyDict)::news1) (H1.length+1) (by rw[List.length_append];exact Nat.lt_succ_self _)
 rw[hl1,bV]at q
 rw[hl1]
 exact q
theorem Ey(J:SL pw w base fns n k)(C:eH pw w base fns n)(B:Bs base fns){f:Str}{c:Nat}{args:List Expr}{as:gy}{p pos:Pos}(hc:dn cx f (.cls c)=true)(c1:dy k cx args as=true):gI pw w base fns n cx (.Call (.Name f p) args [] pos) (.new c as):=by
 intro fl loc H v H' e env A s h₀ L m news ρ Q h P
 obtain⟨fI,hf,e⟩:=yP e
 obtain⟨vs,H1,e1,e⟩:=aD e
 obtain⟨r,H2,e2,e⟩:=aD e
 obtain⟨er,e⟩:=none_inv e
 rw[er]at e2
 obtain⟨e3,e4⟩:=cp e
 rw[←e3,←e4]at P
 obtain⟨K0,kin0,b1,b2,b3,b4,b5,b6,b7,b8,b9⟩:=B.cls c fI hf
 show wpP fl _ _ (do callWith pos (←eval (.Name f p) env) [] (backTo pos (starEach args env)) []) Q s
 refine aT (iF B h.st hc h.EO h.R fun V hV=> ?_)
 rw[show V=_ from hV.inv]
 obtain⟨K,kin,hkeep⟩:=B.keepG f _ (dI hc).2 c (.inr rfl)
 refine d9 (K:=K) (cM c1) hkeep (J c1 e1 pos h fun ρ1 news1 Vs h1 tk1 R1 x1 hV=>⟨fun a o z=>h.st.now R1 _ _ (kin a o z),?_⟩)
 refine da (qp R1.F R1.N (fun a o z=>h.st.now R1 _ _ (kin0 a o z)) b1 b2 b3 fun x dx h' F' N' hlt hdx=> ?_)
 obtain⟨ρ3,news3,Rb,xx,hself⟩:=vC R1 F' N' hlt hdx (by rw[hf];rfl)
 refine C fl fI _ _ .none H2 e2 _ _ h₀ L m _ _ _ (fun v s'=>v= .none∧Q (.ref x) s') (h.A.make c Vs) h.st Rb (.cons hself (hV.mono xx)) fun ρ2 news2 V h2 tk2 R2 x2 hV2=> ?_
 exact⟨hV2.inv,P _ _ _ _ _ R2 ((x1.trans xx).trans x2) (hself.mono x2)⟩
theorem yQ(b:BK):nt K (Dy b)=true:=by cases b<;>rfl
theorem G8 (J:SL pw w base fns n k)(B:Bs base fns){f:Str}{b:BK}{args:List Expr}{as:gy}{p pos:Pos}(hc:uf cx f b=true)(c1:dy k cx args as=true):gI pw w base fns n cx (.Call (.Name f p) args [] pos) (.bi b as):=by
 intro fl loc H v H' e env A s h₀ L m news ρ Q h P
 obtain⟨vs,H1,e1,e⟩:=aD e
 show wpP fl _ _ (do callWith pos (←eval (.Name f p) env) [] (backTo pos (starEach args env)) []) Q s
 refine aT (s7 B h.st hc h.EO h.R ?_)
 refine d9 (K:=[]) (cM c1) (yQ b) (J c1 e1 pos h fun ρ1 news1 Vs h1 tk1 R1 x1 hV=>⟨(fun a o z=>nomatch z),?_⟩)
 exact G6 e (vw h.st R1) h.A.hd h.A.gd R1 hV (P.next x1 h1 tk1)
theorem BP{args:List Expr}{pos:Pos}(hn:noStar args)(hl:args.length<29):methodCallForm (args.length+0) (backTo pos (starEach args env)) []=true:=by
 have h1: ∀{es:List Expr},noStar es→((backTo pos (starEach es env)).all fun x=> !x.1)=true:=by
  intro es
  induction es with
  |nil=>intro _;rfl
  |cons e r ih=>
   intro h
   rw[eO h]
   show(true&&(backTo pos (starEach r env)).all fun x=> !x.1)=true
   rw[ih (lZ h)];rfl
 unfold methodCallForm
 simp only[h1 hn,List.all_nil,Bool.true_and,List.isEmpty_nil,if_true,decide_eq_true_eq]
 omega
theorem vD{v:MV}{H1:HH}{j:Nat}{F G:Nat→Nat→Option (MV×HH)}{r:MV×HH}(e:(match v with
  | .ref n=>match H1[n]? with
   |some (.inst c d)=>match ck c j,H1[d]? with
    | .meth f,some (.attrs fs)=>match dS fs j with
     |none=>F n f
     |some _=>none
    |_,_=>none
   |some o=>match jv o j with
    |some c=>G n c
    |none=>none
   |none=>none
  |_=>none)=some r):(zZ fun i c d f fs=>p8 (v= .ref i) (H1[i]? =some (.inst c d)) (ck c j= .meth f) (H1[d]? =some (.attrs fs)) (dS fs j=none) (F i f=some r))∨iX fun i o c=>cC (v= .ref i) (H1[i]? =some o) (jv o j=some c) (G i c=some r):=by
 cases v with
 |ref i=>
  dsimp only at e
  cases q:H1[i]? with
  |none=>rw[q]at e;exact aV e
  |some o=>
   rw[q]at e
   have other:(match jv o j with|some c=>G i c|none=>none)=some r→iX fun i' o' c=>cC (MV.ref i= .ref i') (H1[i']? =some o') (jv o' j=some c) (G i' c=some r):=fun e=>by
    cases q1:jv o j with
    |none=>rw[q1]at e;exact aV e
    |some c=>rw[q1]at e;exact⟨i,o,c,rfl,q,q1,e⟩
   cases o with
   |inst c d=>
    dsimp only at e
    cases q1:ck c j with
    |meth f=>
     rw[q1]at e
     cases q2:H1[d]? with
     |none=>rw[q2]at e;exact aV e
     |some o'=>
      rw[q2]at e
      cases o' with
      |attrs fs=>
       dsimp only at e
       cases q3:dS fs j with
       |none=>rw[q3]at e;exact .inl ⟨i,c,d,f,fs,rfl,q,q1,q2,q3,e⟩
       |some u=>rw[q3]at e;exact aV e
      |_=>exact aV e
    |_=>rw[q1]at e;exact aV e
   |_=>exact .inr (other e)
 |_=>exact aV e
theorem BQ(I:SE pw w base fns n k)(J:SL pw w base fns n k)(C:eH pw w base fns n)(B:Bs base fns){o:Expr}{io:IE}{j:Nat}{args:List Expr}{as:gy}{apos pos:Pos}(hj:j<223)(hn:dE o=true)(hl:(apos.endLine==pos.line)=true)(hf:args.length<29)(c0:bB k cx o io=true)(c1:dy k cx args as=true):gI pw w base fns n cx (.Call (.Attribute o (nm j) apos) args [] pos) (.meth io j as):=by
 intro fl loc H v H' e env A s h₀ L m news ρ Q h P
 obtain⟨x,H1,e1,e⟩:=aD e
 rw[arm_eval_Call,fq hn]
 refine aj (I c0 e1 h fun ρ1 news1 X h1 tk1 R1 x1 hX=> ?_)
 refine aj (aG ?_)
 show wpP fl _ _ (methodCall o (nm j) apos pos env X (args.length+0) (backTo pos (starEach args env)) []) Q _
 unfold methodCall
 rw[BP (cM c1) hf]
 have hN: ∀{Q:Pos→Shared→Prop}{s:Shared},Q pos s→wpP fl (model pw w) A (methodCallPos true o env apos pos) Q s:=fun q=>by
  unfold methodCallPos
  rw[hl]
  exact ay q
 rcases vD e with⟨i,c,d,f,fs,ei,h1',hc,hd,hg,e⟩|⟨i,o',c,ei,h1',hc,e⟩
 ·obtain⟨vs,H2,e2,e⟩:=aD e
  rw[ei]at hX
  have hio:cz H1 (.ref i)=some (i,c,d):=by unfold cz;dsimp only;rw[h1']
  obtain⟨K,kin,m1,m2,m3⟩: ∃K:Frag,cC (K.In base) (findIn K (.ref c) (nm j)=some (some (.ref f))) (isFn K (.ref f)=true) (keepIn K (.ref f)=true):=by
   obtain⟨fI,hfI⟩:=nr (R1.instAt h1').2.2
   obtain⟨K,kin,q⟩:=B.cls c fI hfI
   exact⟨K,kin,(q.meth j f hc).1,(q.meth j f hc).2.1,(q.meth j f hc).2.2⟩
  refine aj (aE (aL (vy B h.st hj hio hc hd hg R1 hX ?_)))
  refine aj (hN ?_)
  refine d9 (K:=K) (cM c1) m3 (J c1 e2 pos (h.next R1 x1 tk1) fun ρ2 news2 Vs h2 tk2 R2 x2 hV=>⟨fun a o z=>h.st.now R2 _ _ (kin a o z),?_⟩)
  refine da (C fl f _ H2 v H' e _ _ h₀ L m news2 ρ2 _ _ h.A.call h.st R2 (.cons (hX.mono x2) hV) ?_)
  exact(P.next x1 h1 tk1).next x2 h2 tk2
 ·obtain⟨vs,H2,e2,e⟩:=aD e
  rw[ei]at hX
  obtain⟨hV,hi⟩:=hX.refInv
  rw[hV]
  refine aj (aE (aL (BF hc h1' R1 ?_)))
  refine aj (hN ?_)
  refine d9 (K:=[]) (cM c1) rfl (J c1 e2 pos (h.next R1 x1 tk1) fun ρ2 news2 Vs h2 tk2 R2 x2 hV=>⟨(fun a o z=>nomatch z),?_⟩)
  have q:=vp (A:=A) e h.A.gd R2 hV ((P.next x1 h1 tk1).next x2 h2 tk2)
  rw[show ρ1 i=ρ2 i from(x2.same i hi).symm]
  exact q
theorem Ez(I:SE pw w base fns n k){x:Expr}{a:IE}(c1:bB k cx x a=true)(e:bo (ao fns n) fl a loc H=some (v,H'))(pos:Pos){op:BoolOp}
  (h:Here pw w base n A s h₀ L m news ρ H cx env loc)(P:bh pw w base h₀ L m ρ news H s v H' Q):wpP fl (model pw w) A (boolOp pos op (evalEach [x] env)) Q s:=I c1 e h P
set_option backward.match.sparseCases true in
theorem EA(I:SE pw w base fns n k)(J:SB pw w base fns n k){x y:Expr}{r:List Expr}{a q:IE}(c1:bB k cx x a=true)(c2:sG k cx .And (y::r) q=true)(e:bo (ao fns n) fl (.and a q) loc H=some (v,H'))(pos:Pos)
  (h:Here pw w base n A s h₀ L m news ρ H cx env loc)(P:bh pw w base h₀ L m ρ news H s v H' Q):wpP fl (model pw w) A (boolOp pos .And (evalEach (x::y::r) env)) Q s:=by
 show wpP fl _ _ (do let v←eval x env;standAt pos;let t←holding [v] (truthy v);match BoolOp.And,t with| .And,false| .Or,true=>pure v|_,_=>boolOp pos .And (evalEach (y::r) env)) Q s
 rcases dc e with⟨H1,e1,e⟩|⟨H1,e1,e⟩
 ·refine aj (I c1 e1 h fun ρ1 news1 X h1 tk1 R1 x1 hX=> ?_)
  rw[hX.boolInv]
  refine aj (aG (aj (aE (aL (wpAny_truthy_bool ?_)))))
  exact J c2 e pos (h.next R1 x1 tk1) (P.next x1 _ _)
 ·replace P:=P.at e
  refine aj (I c1 e1 h fun ρ1 news1 X h1 tk1 R1 x1 hX=> ?_)
  rw[hX.boolInv]
  refine aj (aG (aj (aE (aL (wpAny_truthy_bool ?_)))))
  exact ay (P _ _ _ _ _ R1 x1 (.bool _))
set_option backward.match.sparseCases true in
theorem G9 (I:SE pw w base fns n k)(J:SB pw w base fns n k){x y:Expr}{r:List Expr}{a q:IE}(c1:bB k cx x a=true)(c2:sG k cx .Or (y::r) q=true)(e:bo (ao fns n) fl (.or a q) loc H=some (v,H'))(pos:Pos)
  (h:Here pw w base n A s h₀ L m news ρ H cx env loc)(P:bh pw w base h₀ L m ρ news H s v H' Q):wpP fl (model pw w) A (boolOp pos .Or (evalEach (x::y::r) env)) Q s:=by
 show wpP fl _ _ (do let v←eval x env;standAt pos;let t←holding [v] (truthy v);match BoolOp.Or,t with| .And,false| .Or,true=>pure v|_,_=>boolOp pos .Or (evalEach (y::r) env)) Q s
 rcases dc e with⟨H1,e1,e⟩|⟨H1,e1,e⟩
 ·replace P:=P.at e
  refine aj (I c1 e1 h fun ρ1 news1 X h1 tk1 R1 x1 hX=> ?_)
  rw[hX.boolInv]
  refine aj (aG (aj (aE (aL (wpAny_truthy_bool ?_)))))
  exact ay (P _ _ _ _ _ R1 x1 (.bool _))
 ·refine aj (I c1 e1 h fun ρ1 news1 X h1 tk1 R1 x1 hX=> ?_)
  rw[hX.boolInv]
  refine aj (aG (aj (aE (aL (wpAny_truthy_bool ?_)))))
  exact J c2 e pos (h.next R1 x1 tk1) (P.next x1 _ _)
theorem BR(T:ST pw w base fns n k){x:Expr}{a:IE}{c:Bool}{Q:Bool→Shared→Prop}(c1:bB k cx x a=true)(e:bo (ao fns n) fl a loc H=some (.bool c,H')){op:BoolOp}
  (h:Here pw w base n A s h₀ L m news ρ H cx env loc)(P:fo pw w base h₀ L m ρ news H s c H' Q):wpP fl (model pw w) A (allTrue op [x] env) Q s:=by
 rw[arm_allTrue_cons]
 refine aj (T c1 e h fun ρ1 news1 h1 tk1 R1 x1=> ?_)
 cases op<;>cases c<;>exact ay (P _ _ _ _ R1 x1)
theorem BS(T:ST pw w base fns n k)(J:De pw w base fns n k){x y:Expr}{r:List Expr}{a q:IE}{c:Bool}{Q:Bool→Shared→Prop}(c1:bB k cx x a=true)(c2:sG k cx .And (y::r) q=true)(e:bo (ao fns n) fl (.and a q) loc H=some (.bool c,H'))
  (h:Here pw w base n A s h₀ L m news ρ H cx env loc)(P:fo pw w base h₀ L m ρ news H s c H' Q):wpP fl (model pw w) A (allTrue .And (x::y::r) env) Q s:=by
 rw[arm_allTrue_cons]
 rcases dc e with⟨H1,e1,e⟩|⟨H1,e1,e⟩
 ·refine aj (T c1 e1 h fun ρ1 news1 h1 tk1 R1 x1=> ?_)
  exact J c2 e (h.next R1 x1 tk1) (P.next x1 _ _)
 ·obtain⟨e3,e4⟩:=cp e
  rw[←MV.bool.inj e3,←e4]at P
  refine aj (T c1 e1 h fun ρ1 news1 h1 tk1 R1 x1=> ?_)
  exact ay (P _ _ _ _ R1 x1)
theorem EB(T:ST pw w base fns n k)(J:De pw w base fns n k){x y:Expr}{r:List Expr}{a q:IE}{c:Bool}{Q:Bool→Shared→Prop}(c1:bB k cx x a=true)(c2:sG k cx .Or (y::r) q=true)(e:bo (ao fns n) fl (.or a q) loc H=some (.bool c,H'))
  (h:Here pw w base n A s h₀ L m news ρ H cx env loc)(P:fo pw w base h₀ L m ρ news H s c H' Q):wpP fl (model pw w) A (allTrue .Or (x::y::r) env) Q s:=by
 rw[arm_allTrue_cons]
 rcases dc e with⟨H1,e1,e⟩|⟨H1,e1,e⟩
 ·obtain⟨e3,e4⟩:=cp e
  rw[←MV.bool.inj e3,←e4]at P
  refine aj (T c1 e1 h fun ρ1 news1 h1 tk1 R1 x1=> ?_)
  exact ay (P _ _ _ _ R1 x1)
 ·refine aj (T c1 e1 h fun ρ1 news1 h1 tk1 R1 x1=> ?_)
  exact J c2 e (h.next R1 x1 tk1) (P.next x1 _ _)
end
end Mine.Internal
end
section
namespace Mine.Internal
open PySem PySem.Spec PySem.Calls PyProof.Rows PySem.W PySem.SeqAt
section
variable{w:World}{base:Heap}{A:Around}{s:Shared}{L:Addr}{cx:Cx}{env:Env}{E:Value→Shared→Prop}
theorem vE{e:Expr}{k:Nat}{Q:Value→Shared→Prop}(B:Bs base fns)(st:bG base s.heap)(hc:j4 cx e k=true)(EO:dJ cx L env)
  (P: ∀t tk,k<223→Q (.str (nm k) t) {s with toks:=tk}):wpAny (model pw w) A (eval e env) Q E s:=by
 cases e with
 |Constant c p1 p2=>
  cases c with
  |str x=>
   obtain⟨h1,h2⟩:=cR hc
   rw[h2]
   exact wpAny_mkText (P _ _ h1)
  |_=>exact bF hc
 |Name x pos=>
  unfold j4 dn at hc
  simp only[Bool.and_eq_true]at hc
  obtain⟨⟨h1,h2⟩,h3⟩:=hc
  obtain⟨mg,g1,g2,g3⟩:=B.glob
  obtain⟨V,hV,hg⟩:=g2 x _ h3
  have hkn:env.kindOf x=some .globalImplicit:=by unfold Env.kindOf;rw[EO.names];exact gg h1
  cases hg with
  |str k t hk=>exact Name_function_global EO.kind hkn (loadGlobal_global (by rw[EO.glob];exact g1.keeps st) hV (P t s.toks hk)) (nk h2)
 |_=>exact bF hc
theorem gi{e:Expr}{k:Nat}(h:j4 cx e k=true):isStar e=false:=by
 cases e with
 |Starred=>exact bF h
 |_=>rfl
theorem oJ{h h':Heap}{ks:List Str}{a:Addr}(x:(tupleKind (strKind pw w)).is h ks a)(k: ∀b o,h.get? b=some o→h'.get? b=some o):(tupleKind (strKind pw w)).is h' ks a:=
 let ⟨o,items,n,e,r⟩:=x
 ⟨o,items,n,k _ _ e,r⟩
noncomputable def KV(pw:Program)(w:World)(h:Heap):List (Value×Value)→List (Nat×Nat×Nat)→Prop
 |[],T=>T=[]
 |kv::r,T=>jM fun x y z T'=>xW (T=(x,y,z)::T') ((∃a,kv.1= .ref a∧(tupleKind (strKind pw w)).is h [nm x,nm y] a)) ((∃t,kv.2= .str (nm z) t)) (x<223) (y<223) (z<223) (KV pw w h r T')
theorem KV.mono {h h':Heap}: ∀{vs:List (Value×Value)}{T:List (Nat×Nat×Nat)},KV pw w h vs T→(∀a ks,(tupleKind (strKind pw w)).is h ks a→(tupleKind (strKind pw w)).is h' ks a)→KV pw w h' vs T
 |[],_,e,_=>e
 |_::_,_,⟨x,y,z,T',e,⟨a,e1,e2⟩,ev,b1,b2,b3,r⟩,k=>⟨x,y,z,T',e,⟨a,e1,k _ _ e2⟩,ev,b1,b2,b3,r.mono k⟩
theorem jA{vs:List Expr}{T:List (Nat×Nat×Nat)}(h:eJ cx [] vs T=true):vs=[]∧T=[]:=by
 obtain⟨h1,h2⟩:=dI h
 exact⟨List.isEmpty_iff.mp h1,List.isEmpty_iff.mp h2⟩
theorem iG{o:Option Expr}{ks:List (Option Expr)}{vs:List Expr}{T:List (Nat×Nat×Nat)}(h:eJ cx (o::ks) vs T=true):
  F6 fun v vs' x y z T'=>nV (vs=v::vs') (T=(x,y,z)::T') (uh cx o x y=true) (j4 cx v z=true) (eJ cx ks vs' T'=true):=by
 cases vs with
 |nil=>exact bF h
 |cons v vs=>
  cases T with
  |nil=>exact bF h
  |cons t T=>exact⟨v,vs,t.1,t.2.1,t.2.2,T,rfl,rfl,(jO h).1,(jO h).2.1,(jO h).2.2⟩
theorem jB: ∀{ks:List (Option Expr)}{vs:List Expr}{T:List (Nat×Nat×Nat)},eJ cx ks vs T=true→ks.all (·.isSome)=true∧ks.length=vs.length∧ks.length=T.length
 |[],vs,T,h=>by obtain⟨rfl,rfl⟩:=jA h;exact⟨rfl,rfl,rfl⟩
 |o::ks,vs,T,h=>by
  obtain⟨v,vs',x,y,z,T',rfl,rfl,h1,h2,h3⟩:=iG h
  obtain⟨k1,k2,k3⟩:=jB h3
  cases o with
  |none=>exact bF h1
  |some e=>exact⟨k1,congrArg Nat.succ k2,congrArg Nat.succ k3⟩
theorem nu{e:Expr}{k:Nat}(B:Bs base fns)(h:j4 cx e k=true):k<223:=by
 cases e with
 |Constant c p1 p2=>
  cases c with
  |str x=>exact(cR h).1
  |_=>exact bF h
 |Name x pos=>
  unfold j4 dn at h
  simp only[Bool.and_eq_true]at h
  obtain⟨mg,g1,g2,g3⟩:=B.glob
  obtain⟨V,hV,hg⟩:=g2 x _ h.2
  cases hg with
  |str k t hk=>exact hk
 |_=>exact bF h
structure BU(pw:Program)(w:World)(base:Heap)(A:Around)(p:Sem Value×Sem Value)(t:Nat×Nat×Nat):Prop where
 x:t.1<223
 y:t.2.1<223
 z:t.2.2<223
 key: ∀(s:Shared)(Q:Value→Shared→Prop)(E:Value→Shared→Prop),bG base s.heap→(∀a h' tk,(∀b o,s.heap.get? b=some o→h'.get? b=some o)→(tupleKind (strKind pw w)).is h' [nm t.1,nm t.2.1] a→Q (.ref a) {s with heap:=h',toks:=tk})→wpAny (model pw w) A p.1 Q E s
 val: ∀(s:Shared)(Q:Value→Shared→Prop)(E:Value→Shared→Prop),bG base s.heap→(∀tt tk,Q (.str (nm t.2.2) tt) {s with toks:=tk})→wpAny (model pw w) A p.2 Q E s
noncomputable def je(pw:Program)(w:World)(base:Heap)(A:Around):List (Sem Value×Sem Value)→List (Nat×Nat×Nat)→Prop
 |[],T=>T=[]
 |p::ps,T=>dk fun t T'=>bx (T=t::T') (BU pw w base A p t) (je pw w base A ps T')
theorem ta{o:Option Expr}{x y:Nat}(h:uh cx o x y=true):jM fun e1 e2 cc pos=>bx (o=some (.Tuple [e1,e2] cc pos)) (j4 cx e1 x=true) (j4 cx e2 y=true):=by
 cases o with
 |none=>exact bF h
 |some e=>
  cases e with
  |Tuple es cc pos=>
   cases es with
   |nil=>exact bF h
   |cons e1 r=>
    cases r with
    |nil=>exact bF h
    |cons e2 r=>
     obtain⟨h0,h1,h2⟩:=jO h
     rw[List.isEmpty_iff]at h0
     exact⟨e1,e2,cc,pos,by rw[h0],h1,h2⟩
  |_=>exact bF h
theorem vF{pos:Pos}(B:Bs base fns)(EO:dJ cx L env): ∀{ks:List (Option Expr)}{vs:List Expr}{T:List (Nat×Nat×Nat)},eJ cx ks vs T=true→je pw w base A (pairTrees ks vs env pos) T
 |[],vs,T,h=>by
  obtain⟨rfl,rfl⟩:=jA h
  rfl
 |o::ks,vs,T,h=>by
  obtain⟨v,vs',x,y,z,T',rfl,rfl,h1,h2,h3⟩:=iG h
  obtain⟨e1,e2,cc,kp,rfl,k1,k2⟩:=ta h1
  refine⟨_,T',rfl,⟨nu B k1,nu B k2,nu B h2,fun s Q E st P=> ?_,fun s Q E st P=> ?_⟩,vF B EO h3⟩
  ·show wpAny _ _ (do standAt kp;newTuple (←spliced (backTo kp (starEach [e1,e2] env)))) Q E s
   have hs:backTo kp (starEach [e1,e2] env)=[(false,eval e1 env),(false,eval e2 env)]:=by
    rw[eO (e:=e1) (r:=[e2]) (show noStar [e1,e2]from⟨gi k1,gi k2,trivial⟩),eO (e:=e2) (r:=[]) (show noStar [e2]from⟨gi k2,trivial⟩)];rfl
   rw[hs]
   refine wpAny_bind (wpAny_standAt (wpAny_bind (eu (ft (aL (vE B st k1 EO fun t1 tk1 _=> ?_))))))
   refine ft (aL (vE (s:={s with toks:=tk1}) B st k2 EO fun t2 tk2 _=>ay ?_))
   refine wpAny_newObj_type (P _ _ tk2 (fun b o e=>Heap.get?_push_of_some _ e) ⟨_,_,_,Heap.get?_push_size _ rfl,rfl,rfl,.cons (strKind_is _ _ _ _) (.cons (strKind_is _ _ _ _) .nil)⟩) ?_
   show(2:Nat)≤_
   decide
  ·exact wpAny_bind (vE B st h2 EO fun t tk _=>wpAny_bind (wpAny_standAt (wpAny_pure (P t tk))))
theorem l6: ∀{ps:List (Sem Value×Sem Value)}{T:List (Nat×Nat×Nat)},je pw w base A ps T→ ∀(s:Shared)(Q:List (Value×Value)→Shared→Prop),bG base s.heap→
  (∀h' tk pvs,(∀b o,s.heap.get? b=some o→h'.get? b=some o)→KV pw w h' pvs T→Q pvs {s with heap:=h',toks:=tk})→wpAny (model pw w) A (evalPairs ps) Q E s
 |[],T,h,s,Q,st,P=>by
  cases h
  exact evalPairs_nil (P s.heap s.toks [] (fun _ _ e=>e) rfl)
 |p::ps,T,⟨t,T',e,h1,h2⟩,s,Q,st,P=>by
  subst e
  refine evalPairs_cons (h1.key _ _ _ st fun a h' tk k hk=>h1.val _ _ _ (fun b o e=>k b o (st b o e)) fun tt tk'=> ?_)
  refine l6 h2 _ _ (fun b o e=>k b o (st b o e)) fun h3 tk3 pvs k3 hkv=>P h3 tk3 _ (fun b o e=>k3 b o (k b o e)) ?_
  exact⟨t.1,t.2.1,t.2.2,T',rfl,⟨a,rfl,oJ hk k3⟩,⟨tt,rfl⟩,h1.x,h1.y,h1.z,hkv⟩
noncomputable def View(a b:Nat)(xs:List (List Str×Addr×Value))(acc:Option Nat):Prop:=match acc with
 |none=>atKey xs [nm a,nm b]=none
 |some v=>v<223∧dk fun p t=>atKey xs [nm a,nm b]=some p∧p.2= .str (nm v) t
theorem l7 {xs:List (List Str×Addr×Value)}{k q:List Str}{v:Value}:atKey (xs.map (putAt k v)) q=if k=q then(atKey xs q).map fun p=>(p.1,v)else atKey xs q:=by
 induction xs with
 |nil=>by_cases h:k=q<;>simp[atKey,h]
 |cons x r ih=>
  unfold atKey at ih⊢
  rw[List.map_cons,List.find?_cons,List.find?_cons]
  by_cases h1:x.1=k
  ·rw[show putAt k v x=(x.1,x.2.1,v) by unfold putAt;rw[if_pos h1]]
   by_cases h2:x.1=q
   ·have:k=q:=h1.symm.trans h2
    simp[h2,this]
   ·have: ¬k=q:=fun e=>h2 (h1.trans e)
    simp only[h2,decide_false,this,if_false]at ih⊢
    exact ih
  ·rw[show putAt k v x=x by unfold putAt;rw[if_neg h1]]
   by_cases h2:x.1=q
   ·have: ¬k=q:=fun e=>h1 (h2.trans e.symm)
    simp[h2,this]
   ·simp only[h2,decide_false]
    exact ih
theorem l8 {xs:List (List Str×Addr×Value)}{k q:List Str}{a:Addr}{v:Value}(h:atKey xs k=none):atKey (xs++[(k,a,v)]) q=if k=q then some (a,v)else atKey xs q:=by
 unfold atKey at h⊢
 rw[List.find?_append]
 by_cases e:k=q
 ·subst e
  rw[Option.map_eq_none_iff.mp h]
  simp
 ·simp[e]
theorem View.store {a b x y z:Nat}{xs:List (List Str×Addr×Value)}{acc:Option Nat}{ad:Addr}{t:Tok}(h:View a b xs acc)(ha:a<223)(hb:b<223)(hx:x<223)(hy:y<223)(hz:z<223):
  View a b (storedH xs [nm x,nm y] ad (.str (nm z) t)) (if Nat.beq x a&&Nat.beq y b then some z else acc):=by
 have he:([nm x,nm y]=[nm a,nm b])↔(Nat.beq x a&&Nat.beq y b)=true:=by
  rw[Bool.and_eq_true]
  constructor
  ·intro e
   injection e with e1 e2
   injection e2 with e2 _
   rw[i8 hx ha e1,i8 hy hb e2]
   exact⟨Nat.beq_refl _,Nat.beq_refl _⟩
  ·rintro⟨e1,e2⟩
   rw[Nat.eq_of_beq_eq_true e1,Nat.eq_of_beq_eq_true e2]
 cases q:atKey xs [nm x,nm y]with
 |none=>
  rw[storedH_new q]
  by_cases e:(Nat.beq x a&&Nat.beq y b)=true
  ·rw[if_pos e]
   exact⟨hz,(ad,_),t,by rw[l8 q,if_pos (he.mpr e)],rfl⟩
  ·rw[if_neg e]
   unfold View at h⊢
   rw[l8 q,if_neg (fun z=>e (he.mp z))]
   exact h
 |some p=>
  rw[storedH_old q]
  by_cases e:(Nat.beq x a&&Nat.beq y b)=true
  ·rw[if_pos e]
   refine⟨hz,(p.1,_),t,?_,rfl⟩
   rw[l7,if_pos (he.mpr e),←he.mpr e,q]
   rfl
  ·rw[if_neg e]
   unfold View at h⊢
   rw[l7,if_neg (fun z=>e (he.mp z))]
   exact h
noncomputable def Holds(xs:List (List Str×Addr×Value))(T:List (Nat×Nat×Nat)):Prop:=xs.length≤T.length∧ ∀a b,a<223→b<223→View a b xs (i2 a b T none)
theorem kE(a b:Nat)(t:Nat×Nat×Nat): ∀(T:List (Nat×Nat×Nat))(acc:Option Nat),i2 a b (T++[t]) acc=if Nat.beq t.1 a&&Nat.beq t.2.1 b then some t.2.2 else i2 a b T acc
 |[],_=>rfl
 |_::T,_=>kE a b t T _
theorem Holds.nil:Holds [] []:=⟨Nat.le_refl _,fun _ _ _ _=>rfl⟩
theorem Holds.store {xs:List (List Str×Addr×Value)}{T:List (Nat×Nat×Nat)}{t:Nat×Nat×Nat}{ad:Addr}{tt:Tok}(h:Holds xs T)(hx:t.1<223)(hy:t.2.1<223)(hz:t.2.2<223):Holds (storedH xs [nm t.1,nm t.2.1] ad (.str (nm t.2.2) tt)) (T++[t]):=by
 refine⟨?_,fun a b ha hb=> ?_⟩
 ·rw[List.length_append]
  refine Nat.le_trans ?_ (Nat.add_le_add_right h.1 1)
  unfold storedH
  split
  ·rw[List.length_map];exact Nat.le_succ _
  ·rw[List.length_append];exact Nat.le_refl _
 ·rw[kE];exact(h.2 a b ha hb).store ha hb hx hy hz
noncomputable abbrev Tab (pw:Program)(w:World)(h:Heap)(d:Addr)(xs:List (List Str×Addr×Value)):Prop:=h.DictOfH (tupleKind (strKind pw w)) d xs
theorem yR{h h':Heap}{d:Addr}{xs:List (List Str×Addr×Value)}(T:Tab pw w h d xs)(hs:Heap.SameBut d h h'){a:Addr}{ks:List Str}(x:(tupleKind (strKind pw w)).is h ks a):(tupleKind (strKind pw w)).is h' ks a:=
 let ⟨_,_,_,ho,_,hd,_⟩:=T
 (tupleKind (strKind pw w)).keeps x ho hd hs
theorem iH{h h':Heap}{d:Addr}{xs:List (List Str×Addr×Value)}(T:Tab pw w h d xs)(k: ∀b o,h.get? b=some o→h'.get? b=some o):Tab pw w h' d xs:=
 let ⟨o,es,ep,ho,hc,hd,he,his,hn⟩:=T
 ⟨o,es,ep,k _ _ ho,hc,hd,he,fun x hx=>oJ (his x hx) k,hn⟩
theorem l9 {d:Addr}(hu:A.units<cLine): ∀{pvs:List (Value×Value)}{T T0:List (Nat×Nat×Nat)}{xs:List (List Str×Addr×Value)}(s:Shared)(Q:PUnit→Shared→Prop),
  KV pw w s.heap pvs T→Tab pw w s.heap d xs→Holds xs T0→T0.length+T.length≤100→
  (∀h' tk xs',Tab pw w h' d xs'→Holds xs' (T0++T)→Heap.SameBut d s.heap h'→Q ⟨⟩ {s with heap:=h',toks:=tk})→wpAny (model pw w) A (storeAll d pvs) Q E s
 |[],T,T0,xs,s,Q,hk,hT,hv,hl,P=>by
  cases hk
  unfold storeAll
  rw[List.forIn_nil]
  exact wpAny_pure (P s.heap s.toks xs hT (by rw[List.append_nil];exact hv) (Heap.SameBut.refl _ _))
 |kv::pvs,T,T0,xs,s,Q,⟨x,y,z,T',e,⟨ad,e1,e2⟩,⟨t,ev⟩,b1,b2,b3,r⟩,hT,hv,hl,P=>by
  subst e
  rw[List.length_cons]at hl
  have h1:=hv.1
  unfold storeAll
  rw[List.forIn_cons,e1,ev]
  refine wpAny_bind (wpAny_bind (wpAny_dictSet_heap (hsz:=by rw[sizeLine_eq];exact HW (by assumption) (by assumption)) (knd:=tupleKind (strKind pw w)) hu e2 hT fun h' hT' hs=>wpAny_pure ?_))
  refine l9 hu _ Q (r.mono fun _ _=>yR hT hs) hT' (hv.store (t:=(x,y,z)) b1 b2 b3) (by rw[List.length_append];exact yi (by assumption)) fun h2 tk2 xs2 T2 v2 s2=>P h2 tk2 xs2 T2 ?_ (hs.trans s2)
  rwa[List.append_assoc]at v2
theorem oK{d:Addr}(hd:base.get? d=none)(hu:A.units<cLine): ∀{ps:List (Sem Value×Sem Value)}{T T0:List (Nat×Nat×Nat)}{xs:List (List Str×Addr×Value)}(s:Shared)(Q:PUnit→Shared→Prop),
  je pw w base A ps T→bG base s.heap→Tab pw w s.heap d xs→Holds xs T0→T0.length+T.length≤100→
  (∀h' tk xs',Tab pw w h' d xs'→Holds xs' (T0++T)→(∀b o,b≠d→s.heap.get? b=some o→h'.get? b=some o)→Q ⟨⟩ {s with heap:=h',toks:=tk})→
  wpAny (model pw w) A (forIn ps PUnit.unit fun(x:Sem Value×Sem Value)(_:PUnit)=>(do let kv←x.1;let vv←holding [kv] x.2;holding [kv,vv] (dictSet d kv vv);pure (ForInStep.yield PUnit.unit):Sem (ForInStep PUnit))) Q E s
 |[],T,T0,xs,s,Q,hk,st,hT,hv,hl,P=>by
  cases hk
  rw[List.forIn_nil]
  exact wpAny_pure (P s.heap s.toks xs hT (by rw[List.append_nil];exact hv) (fun _ _ _ e=>e))
 |p::ps,T,T0,xs,s,Q,⟨t,T',e,h1,h2⟩,st,hT,hv,hl,P=>by
  subst e
  rw[List.length_cons]at hl
  have hl1:=hv.1
  rw[List.forIn_cons]
  refine wpAny_bind (wpAny_bind (h1.key _ _ _ st fun a h' tk k hk=> ?_))
  have st1:bG base h':=fun b o e=>k b o (st b o e)
  refine wpAny_bind (wpAny_holding (h1.val _ _ _ st1 fun tt tk'=> ?_))
  refine wpAny_bind (wpAny_holding (wpAny_dictSet_heap (hsz:=by rw[sizeLine_eq];exact HW (by assumption) (by assumption)) (knd:=tupleKind (strKind pw w)) hu hk (iH hT k) fun h2 hT2 hs=>wpAny_pure ?_))
  have st2:bG base h2:=fun b o e=>(hs.2 b fun z=>by rw[z,hd]at e;cases e).trans (st1 b o e)
  refine oK hd hu _ Q (by assumption) st2 hT2 (hv.store (t:=t) h1.x h1.y h1.z) (by rw[List.length_append];exact yi (by assumption)) fun h3 tk3 xs3 T3 v3 k3=>P h3 tk3 xs3 T3 ?_ fun b o z e=>k3 b o z ((hs.2 b z).trans (k b o e))
  rwa[List.append_assoc]at v3
theorem vG{s:Shared}(st:bG base s.heap):base.get? s.heap.objs.size=none:=by
 cases e:base.get? s.heap.objs.size with
 |none=>rfl
 |some o=>exact absurd (Heap.lt_size (st _ _ e)) (Nat.lt_irrefl _)
theorem sub_short{ps:List (Sem Value×Sem Value)}{T:List (Nat×Nat×Nat)}{Q:Addr→Shared→Prop}(h:je pw w base A ps T)(hl:ps.length≤15)(hT:T.length≤100)(hu:A.units<cLine)(st:bG base s.heap)
  (P: ∀d h' tk xs,(∀b o,s.heap.get? b=some o→h'.get? b=some o)→s.heap.objs.size≤d→Tab pw w h' d xs→Holds xs T→Q d {s with heap:=h',toks:=tk}):wpAny (model pw w) A (subDict ps) Q E s:=by
 have k0: ∀b o,s.heap.get? b=some o→(s.heap.push {cls:= .type "dict",data:= .dict #[]}).get? b=some o:=fun b o e=>Heap.get?_push_of_some _ e
 refine wpAny_subDict_any hl (l6 (s:={s with heap:=s.heap.push {cls:= .type "dict",data:= .dict #[]}}) h _ (fun b o e=>k0 b o (st b o e)) fun h1 tk1 pvs k1 hkv=> ?_)
 refine l9 (s:={s with heap:=h1,toks:=tk1}) hu _ hkv (iH (Heap.DictOfH.new _) k1) .nil (HX (by assumption)) fun h2 tk2 xs2 T2 v2 s2=>P _ _ _ _ (fun b o e=> ?_) (Nat.le_refl _) T2 v2
 exact(s2.2 b (Nat.ne_of_lt (Heap.lt_size e))).trans (k1 b o (k0 b o e))
theorem vH{ps:List (Sem Value×Sem Value)}{T:List (Nat×Nat×Nat)}{Q:Addr→Shared→Prop}(h:je pw w base A ps T)(hl: ¬ps.length≤15)(hT:T.length≤100)(hu:A.units<cLine)(st:bG base s.heap)
  (P: ∀d h' tk xs,(∀b o,s.heap.get? b=some o→h'.get? b=some o)→s.heap.objs.size≤d→Tab pw w h' d xs→Holds xs T→Q d {s with heap:=h',toks:=tk}):wpAny (model pw w) A (subDict ps) Q E s:=by
 have k0: ∀b o,s.heap.get? b=some o→(s.heap.push {cls:= .type "dict",data:= .dict #[]}).get? b=some o:=fun b o e=>Heap.get?_push_of_some _ e
 unfold subDict
 refine wpAny_bind (wpAny_alloc ?_)
 refine wpAny_bind (wpAny_holding ?_)
 rw[if_neg hl]
 refine wpAny_bind (wpAny_rule ?_)
 refine wpAny_bind (oK (s:={s with heap:=s.heap.push {cls:= .type "dict",data:= .dict #[]}}) (vG st) hu _ h (fun b o e=>k0 b o (st b o e)) (Heap.DictOfH.new _) .nil (HX (by assumption)) fun h2 tk2 xs2 T2 v2 k2=> ?_)
 exact wpAny_pure (wpAny_pure (P _ _ _ _ (fun b o e=>k2 b o (Nat.ne_of_lt (Heap.lt_size e)) (k0 b o e)) (Nat.le_refl _) T2 v2))
theorem tc{d u ad:Addr}{k:List Str}{v:Value}{xs:List (List Str×Addr×Value)}{Q:Unit→Shared→Prop}(hu:A.units<cLine)(hd:Tab pw w s.heap d xs)(hs:Tab pw w s.heap u [(k,ad,v)])(hne:u≠d)(hsys:(u==sysModules)=false)(hx:xs≠[])(hl:xs.length≤100)
  (hk:atKey xs k=none)(P: ∀h',Tab pw w h' d (storedH xs k ad v)→Heap.SameBut d s.heap h'→Q () {s with heap:=h'}):wpAny (model pw w) A (mergeMapping d (.ref u) false) Q E s:=by
 obtain⟨o,es,ep,ho,hc,hdd,he,his,hn⟩:=hd
 have hs':=hs
 obtain⟨o2,es2,ep2,ho2,hc2,hdd2,he2,his2,hn2⟩:=hs
 have hz:es.size=xs.length:=size_of_entries he
 have hz2:es2.size=1:=size_of_entries he2
 unfold mergeMapping
 dsimp only
 refine wpAny_bind (wpAny_isInstance hs'.typeIs isSubtype_dict_dict ?_)
 rw[if_pos rfl]
 refine wpAny_bind (wpAny_specialOf hs'.typeIs F.slot_dict_iter.lookup ?_)
 refine wpAny_bind (wpAny_pure ?_)
 have hb:((some (Value.builtin "dict.__iter__"):Option Value)==some (Value.builtin "dict.__iter__"))=true:=beq_self_eq_true _
 rw[hb]
 dsimp only
 rw[hsys]
 rw[if_neg (by decide)]
 refine wpAny_bind (wpAny_dictEntries ho hdd ?_)
 have hne0:es.isEmpty=false:=by
  rw[Array.isEmpty_eq_false_iff]
  intro e
  rw[e]at hz
  exact hx (List.length_eq_zero_iff.mp hz.symm)
 rw[hne0,if_neg (by decide)]
 refine wpAny_bind (wpAny_dictEntries ho2 hdd2 ?_)
 refine wpAny_bind (wpAny_dictEpoch ho2 hdd2 ?_)
 rw[hz2]
 refine wpAny_bind ?_
 show wpAny _ _ (forIn [0] PUnit.unit _) _ _ _
 rw[List.forIn_cons]
 refine wpAny_bind (wpAny_bind (wpAny_dictEntries ho2 hdd2 ?_))
 have e0:es2[0]? =some (entryOfKey (tupleKind (PySem.strKind pw w)) (k,ad,v)):=by
  rw[entry_at he2];rfl
 rw[e0]
 dsimp only
 refine wpAny_bind (wpAny_holding ?_)
 rw[if_neg Bool.false_ne_true]
 show wpAny _ _ (dictPut d ((tupleKind (PySem.strKind pw w)).hash k) (.ref ad) v) _ _ _
 unfold dictPut
 have hkey:(tupleKind (PySem.strKind pw w)).is s.heap k ad:=his2 _ (.head _)
 refine wpAny_bind (wpAny_dictFind_heap hu hkey ho hdd he his hn (fun hno=> ?_) fun j p hj=> ?_)
 ·dsimp only
  refine wpAny_updateDictKeys (hz:=by rw[sizeLine_eq];omega) ho hdd ?_
  have sb:Heap.SameBut d s.heap (s.heap.update d (Obj.mapDictKeys fun x=>x.push ⟨(tupleKind (PySem.strKind pw w)).hash k,.ref ad,v⟩)):=Heap.SameBut.update ..
  refine wpAny_bind (wpAny_dictEpoch ((sb.2 u hne).trans ho2) hdd2 ?_)
  rw[bne_self_eq_false,if_neg Bool.false_ne_true]
  refine wpAny_pure ?_
  dsimp only
  rw[List.forIn_nil]
  refine wpAny_pure ?_
  refine wpAny_pure (P _ ⟨_,_,ep+1,Heap.get?_update_self _ ho (Obj.isFreed_of_dict (Obj.data_mapDictKeys hdd _)),hc.mapDictKeys _,Obj.data_mapDictKeys hdd _,?_,?_,?_⟩ sb)
  ·rw[storedH_new hk]
   simp[he,entryOfKey]
  ·rw[storedH_new hk]
   intro x hx
   rcases List.mem_append.mp hx with hx|hx
   ·exact(tupleKind (PySem.strKind pw w)).keeps (his x hx) ho hdd sb
   ·rw[List.mem_singleton.mp hx]
    exact(tupleKind (PySem.strKind pw w)).keeps hkey ho hdd sb
  ·rw[storedH_new hk,List.map_append,List.nodup_append]
   refine⟨hn,List.nodup_cons.mpr ⟨fun h=>(nomatch h),List.nodup_nil⟩,fun x hx y hy=> ?_⟩
   rw[List.mem_singleton.mp hy]
   intro(e:x=k)
   rw[e]at hx
   exact not_mem_keys_of_get hno hx
 ·rw[atKey_of_get hn hj]at hk
  cases hk
theorem oM{σ:Type}{α:Type}(f:(Option α×α)→(σ×List (α×α))→Sem (ForInStep (σ×List (α×α))))(m:σ)
  (hf: ∀(p:α×α)(run:List (α×α)),run.length+1<17→f (some p.1,p.2) (m,run)=pure (.yield (m,run++[p])))(rest:List (Option α×α)):
  ∀(items run:List (α×α)),run.length+items.length<17→forIn ((items.map fun p=>(some p.1,p.2))++rest) (m,run) f=forIn rest (m,run++items) f
 |[],run,_=>by rw[List.append_nil];rfl
 |p::r,run,h=>by
  rw[List.length_cons]at h
  rw[List.map_cons,List.cons_append,List.forIn_cons,hf p run (by omega),pure_bind]
  have:=oM f m hf rest r (run++[p]) (by rw[List.length_append];exact yi (by assumption))
  rw[List.append_assoc]at this
  exact this
theorem qu(ps:List (Sem Value×Sem Value))(h:ps.length=16)(p q:Sem Value×Sem Value):dictDisplay ((ps++[p,q]).map fun p=>(some p.1,p.2))=(do
  let d←subDict (ps++[p])
  let sub←holding [.ref d] (subDict [q])
  (holding [.ref d,.ref sub] (mergeMapping d (.ref sub) false)).onRaise fun x=>do let _←holding [.ref d,x] (runValue (.builtin "proto.let_go" {}))
  pure (.ref d)):=by
 unfold dictDisplay
 dsimp only
 rw[List.map_append,oM _ none (fun p run h=>by
  have hne:((run++[(p.1,p.2)]).length==17)=false:=by simp;omega
  simp only[hne,Bool.false_eq_true,if_false]) _ ps [] (by rw[h];decide)]
 simp[h]
end
theorem je.len {w:World}{base:Heap}{A:Around}: ∀{ps:List (Sem Value×Sem Value)}{T:List (Nat×Nat×Nat)},je pw w base A ps T→ps.length=T.length
 |[],_,h=>by cases h;rfl
 |_::_,_,⟨t,T',e,_,r⟩=>by rw[e];exact congrArg Nat.succ r.len
theorem je.split {w:World}{base:Heap}{A:Around}{b:List (Sem Value×Sem Value)}: ∀{a:List (Sem Value×Sem Value)}{T:List (Nat×Nat×Nat)},je pw w base A (a++b) T→dk fun T1 T2=>bx (T=T1++T2) (je pw w base A a T1) (je pw w base A b T2)
 |[],T,h=>⟨[],T,rfl,rfl,h⟩
 |p::a,T,⟨t,T',e,h1,r⟩=>by
  obtain⟨T1,T2,e2,h2,h3⟩:=je.split (a:=a) r
  exact⟨t::T1,T2,by rw[e,e2];rfl,⟨t,T1,rfl,h1,h2⟩,h3⟩
theorem vI{α:Type}{l:List α}(h:l.length=18):iX fun a p q=>l=a++[p,q]∧a.length=16:=by
 have hl:(l.drop 16).length=2:=by rw[List.length_drop,h]
 match e:l.drop 16,hl with
 |[p,q],_=>exact⟨l.take 16,p,q,by rw[←e,List.take_append_drop],by rw[List.length_take,h];rfl⟩
section
variable{w:World}{base:Heap}{A:Around}{s:Shared}{L:Addr}{cx:Cx}{env:Env}{E:Value→Shared→Prop}
theorem td{xs:List (List Str×Addr×Value)}{u:Nat×Nat×Nat}(h:Holds xs [u])(hx:u.1<223)(hy:u.2.1<223):dk fun ad t=>xs=[([nm u.1,nm u.2.1],ad,.str (nm u.2.2) t)]:=by
 obtain⟨h1,h2⟩:=h
 have:=h2 u.1 u.2.1 hx hy
 rw[show i2 u.1 u.2.1 [u] none=some u.2.2 by unfold i2 i2;rw[Nat.beq_refl,Nat.beq_refl];rfl]at this
 obtain⟨_,p,t,e,ev⟩:=this
 clear h2 hx hy
 cases xs with
 |nil=>exact aV e
 |cons x r=>
  have hr:r=[]:=List.length_eq_zero_iff.mp (Nat.le_zero.mp (Nat.le_of_succ_le_succ h1))
  rw[hr]at e⊢
  unfold atKey at e
  rw[List.find?_cons]at e
  cases q:decide (x.1=[nm u.1,nm u.2.1])with
  |true=>
   rw[q]at e
   have e3:x.2=p:=Option.some.inj e
   exact⟨p.1,t,by rw[←ev,←e3,←of_decide_eq_true q]⟩
  |false=>rw[q]at e;exact aV e
theorem Holds.ne {xs:List (List Str×Addr×Value)}{T:List (Nat×Nat×Nat)}{t:Nat×Nat×Nat}(h:Holds xs (T++[t]))(hx:t.1<223)(hy:t.2.1<223):xs≠[]:=fun e=>by
 have:=h.2 t.1 t.2.1 hx hy
 rw[kE,Nat.beq_refl,Nat.beq_refl,e]at this
 obtain⟨_,p,tt,z,_⟩:=this
 cases z
theorem Holds.fresh {xs:List (List Str×Addr×Value)}{T:List (Nat×Nat×Nat)}{u:Nat×Nat×Nat}(h:Holds xs T)(hx:u.1<223)(hy:u.2.1<223)(e:i2 u.1 u.2.1 T none=none):atKey xs [nm u.1,nm u.2.1]=none:=by
 have:=h.2 u.1 u.2.1 hx hy
 rw[e]at this
 exact this
theorem vJ{ks:List (Option Expr)}{vs:List Expr}{pos:Pos}{T:List (Nat×Nat×Nat)}{Q:Value→Shared→Prop}(B:Bs base fns)(EO:dJ cx L env)(hc:eJ cx ks vs T=true)(hf:mR T=true)(hu:A.units<cLine)(st:bG base s.heap)
  (P: ∀d h' tk xs,(∀b o,s.heap.get? b=some o→h'.get? b=some o)→(d==sysModules)=false→Tab pw w h' d xs→Holds xs T→Q (.ref d) {s with heap:=h',toks:=tk}):wpAny (model pw w) A (eval (.Dict ks vs pos) env) Q E s:=by
 obtain⟨l1,l2,l3⟩:=jB hc
 have hp:=vF (w:=w) (A:=A) (pos:=pos) B EO hc
 have hpl:=hp.len
 have hsys: ∀d,s.heap.objs.size≤d→(d==sysModules)=false:=fun d hd=>by
  obtain⟨o,ho⟩:=B.sys
  have:=Heap.lt_size (st _ _ ho)
  exact beq_eq_false_iff_ne.mpr (Nat.ne_of_gt (Nat.lt_of_lt_of_le this hd))
 rw[arm_eval_Dict,zip_pairTrees ks vs env pos l1 l2]
 generalize pairTrees ks vs env pos=ps at hp hpl
 refine wpAny_bind (wpAny_standAt ?_)
 rcases Bool.or_eq_true_iff.mp hf with h|h
 ·obtain⟨h1,h2⟩:=Bool.and_eq_true_iff.mp h
  have h1:=Nat.le_of_ble_eq_true h1
  have h2:=Nat.le_of_ble_eq_true h2
  rw[dictDisplay_pairs ps (fun e=>by rw[e]at hpl;rw[←hpl]at h2;exact absurd h2 (Nat.lt_irrefl 0)) (by omega)]
  exact wpAny_bind (sub_short hp (by omega) (by omega) hu st fun d h' tk xs k g T2 v2=>wpAny_pure (P d h' tk xs k (hsys d g) T2 v2))
 ·obtain⟨h1,h2⟩:=Bool.and_eq_true_iff.mp h
  have h1:=Nat.eq_of_beq_eq_true h1
  obtain⟨a,p,q,rfl,ha⟩:=vI (hpl.trans h1)
  rw[qu a ha p q]
  rw[show a++[p,q]=(a++[p])++[q] by rw[List.append_assoc];rfl]at hp
  obtain⟨T1,T2,rfl,hp1,hp2⟩:=hp.split
  have hl1:=hp1.len
  rw[List.length_append,ha]at hl1
  obtain⟨u,T',e,hq,hn⟩:=hp2
  cases hn
  subst e
  have hT1:T1.length=17:=hl1.symm
  have hfresh:i2 u.1 u.2.1 T1 none=none:=by
   rw[←hT1,List.drop_left,List.take_left]at h2
   exact Option.isNone_iff_eq_none.mp h2
  obtain⟨T0,Tt,rfl,_,t,T'',e,hpt,hn⟩:=hp1.split
  cases hn
  subst e
  refine wpAny_bind (vH hp1 (by rw[List.length_append,ha];show¬17≤15;decide) (by rw[hT1];decide) hu st fun d h1 tk1 xs1 k1 g1 D1 v1=> ?_)
  have st1:bG base h1:=fun b o e=>k1 b o (st b o e)
  refine wpAny_bind (wpAny_holding (sub_short (ps:=[q]) (T:=[u]) ⟨u,[],rfl,hq,rfl⟩ (show 1≤15 by decide) (show 1≤100 by decide) hu st1 fun d2 h2 tk2 xs2 k2 g2 D2 v2=> ?_))
  obtain⟨ad,tt,rfl⟩:=td v2 hq.x hq.y
  have D1':=iH D1 k2
  have hne:d2≠d:=by
   obtain⟨o,_,_,ho,_⟩:=D1
   exact Nat.ne_of_gt (Nat.lt_of_lt_of_le (Heap.lt_size ho) g2)
  have hlt:s.heap.objs.size≤d2:=by
   obtain⟨o,_,_,ho,_⟩:=D1
   exact Nat.le_trans g1 (Nat.le_of_lt (Nat.lt_of_lt_of_le (Heap.lt_size ho) g2))
  refine wpAny_bind (eu (cy (aE (aL (tc hu D1' D2 hne (hsys _ hlt) (v1.ne hpt.x hpt.y) (by have:=v1.1;omega) (v1.fresh hq.x hq.y hfresh) fun h3 D3 sb=> ?_)))))
  refine wpAny_pure (P d h3 tk2 _ (fun b o e=> ?_) (hsys d g1) D3 (v1.store hq.x hq.y hq.z))
  exact(sb.2 b (Nat.ne_of_lt (Nat.lt_of_lt_of_le (Heap.lt_size e) g1))).trans (k2 b o (k1 b o e))
theorem yS{b:FuncBody}{r:List (Option Expr)×List Expr×Pos×Pos}(h:A0 b=some r):b= .stmts [.Return (some (.Dict r.1 r.2.1 r.2.2.1)) r.2.2.2]:=by
 cases b with
 |expr=>exact aV h
 |stmts body=>
  cases body with
  |nil=>exact aV h
  |cons s q=>
   cases q with
   |cons=>exact aV h
   |nil=>
    cases s with
    |Return v rp=>
     cases v with
     |none=>exact aV h
     |some e=>
      cases e with
      |Dict ks vs dp=>rw[←Option.some.inj h]
      |_=>exact aV h
    |_=>exact aV h
theorem yT{fd:FuncData}{T:List (Nat×Nat×Nat)}(h:yd fd T=true): ∃r:List (Option Expr)×List Expr×Pos×Pos,Di (fd.body= .stmts [.Return (some (.Dict r.1 r.2.1 r.2.2.1)) r.2.2.2]) (fd.params=⟨[],[],none,[],[],none,[]⟩) (fd.scope.kind= .function) (fd.scope.isCoroutine=false) (fd.scope.isGenerator=false) (fd.closure=[]) (eJ ⟨[],fd.scope.names⟩ r.1 r.2.1 T=true) (mR T=true):=by
 unfold yd at h
 cases e:A0 fd.body with
 |none=>rw[e]at h;exact bF h
 |some r=>
  rw[e]at h
  dsimp only at h
  have e1:=iE (a1 h)
  rw[gH (a2 h),gH (a2 (a2 h))]at e1
  have h:=a2 (a2 (a2 h))
  exact⟨r,yS e,e1,beq_iff_eq.mp (a1 h),iD (a1 (a2 h)),iD (a1 (a2 (a2 h))),gH (a2 (a2 (a2 h))),a1 (a2 (a2 (a2 (a2 h)))),a2 (a2 (a2 (a2 (a2 h))))⟩
theorem vK{f:Addr}{T:List (Nat×Nat×Nat)}{fl:Bool}{n:Nat}{K:Frag}{Q:Value→Shared→Prop}(B:Bs base fns)(kin:K.In base)(ok:vu K f T)(hA:yM A n)(st:bG base s.heap)
  (P: ∀d h' tk xs,(∀b o,s.heap.get? b=some o→h'.get? b=some o)→(d==sysModules)=false→Tab pw w h' d xs→Holds xs T→Q (.ref d) {s with heap:=h',toks:=tk}):cV fl (model pw w) A (.call (.ref f) ⟨[],[]⟩) (rI Q) s:=by
 obtain⟨fd,⟨oc,od,osl,hl,hcode,hgl,hbi⟩,hdf,ht⟩:=ok
 obtain⟨r,hb,hp,k1,k2,k3,hcl,hc,hf⟩:=yT ht
 have X:K.In s.heap:=fun a o z=>st _ _ (kin a o z)
 refine eS (mX hA.dp) (X f _ hl) rfl (codeRec_of X hcode) hb k2 k3 (binds:=[]) (BindsTo.of_eq (by unfold bindArgs;rw[hp,hdf];rfl)) ?_
 rw[hcl,hgl,hbi]
 refine wpAny_newFunctionEnv_cells k1 (fun x hx=>nomatch hx) fun env he s' x=> ?_
 obtain⟨h1,tk1,e⟩:=x.toInCall.same
 have kp:=x.toInCall.keep
 rw[e]at kp⊢
 rw[he]
 clear x e he
 have st1:bG base h1:=fun b o e=>kp b o (st b o e)
 refine⟨B.nolim.keeps st1,aL ?_⟩
 refine wpAny_bind ?_
 rw[arm_exec_Return]
 refine wpAny_bind (wpAny_standAt ?_)
 show wpAny _ _ (do return Flow.ret (←eval (.Dict r.1 r.2.1 r.2.2.1) _)) _ _ _
 exact wpAny_bind (vJ (cx:=⟨[],fd.scope.names⟩) (L:=s.heap.objs.size) (s:={s with heap:=h1,toks:=tk1}) B ⟨k1,rfl,rfl,rfl,rfl⟩ hc hf (GO hA.un rfl) st1 fun d h2 tk2 xs2 k2 hsys D2 v2=>
  wpAny_pure (wpAny_pure (P d h2 tk2 xs2 (fun b o e=>k2 b o (kp b o e)) hsys D2 v2)))
end
theorem oN{cx:Cx}{e:Expr}{i:Nat}(h:AY cx e i=true):dk fun x p=>e= .Name x p∧ir cx x i=true:=by
 cases e with
 |Name x p=>exact⟨x,p,rfl,h⟩
 |_=>exact bF h
theorem th{cx:Cx}{args:List Expr}{i j:Nat}(h:ui cx args i j=true):F6 fun x p y q cc tp=>bx (args=[.Tuple [.Name x p,.Name y q] cc tp]) (ir cx x i=true) (ir cx y j=true):=by
 cases args with
 |nil=>exact bF h
 |cons e r=>
  obtain⟨h0,h⟩:=dI h
  rw[List.isEmpty_iff]at h0
  cases e with
  |Tuple es cc tp=>
   cases es with
   |nil=>exact bF h
   |cons a r'=>
    cases r' with
    |nil=>exact bF h
    |cons b r'=>
     obtain⟨h1,h2,h3⟩:=jO h
     rw[List.isEmpty_iff]at h1
     obtain⟨x,p,rfl,k1⟩:=oN h2
     obtain⟨y,q,rfl,k2⟩:=oN h3
     exact⟨x,p,y,q,cc,tp,by rw[h0,h1],k1,k2⟩
  |_=>exact bF h
theorem oO{cx:Cx}{o:Expr}{a:Str}{ap p:Pos}{args:List Expr}{f i j:Nat}(h:jS cx o a ap args p f i j=true):
  iX fun x p1 p2=>p8 (o= .Call (.Name x p2) [] [] p1) ((!sF x "super")=true) (dn cx x (.fn f)=true) (a=nm 4) ((ap.endLine==p.line)=true) (ui cx args i j=true):=by
 cases o with
 |Call g as kw p1=>
  cases g with
  |Name x p2=>
   obtain⟨h1,h2,h3⟩:=jO h
   obtain⟨h3,h4,h5⟩:=jO h3
   obtain⟨h5,h6,h7⟩:=jO h5
   rw[List.isEmpty_iff]at h1 h2
   exact⟨x,p1,p2,by rw[h1,h2],h3,h4,(cR h5).2,h6,h7⟩
  |_=>exact bF h
 |_=>exact bF h
theorem ma{loc:Loc}{i k:Nat}(h:strAt loc i=some k):bU loc i=some (.str k):=by
 unfold strAt at h
 cases e:bU loc i with
 |none=>rw[e]at h;exact aV h
 |some v=>
  rw[e]at h
  cases v with
  |str k'=>rw[Option.some.inj h]
  |_=>exact aV h
theorem ti{loc:Loc}{f i j:Nat}{v:MV}(h:tabAt loc f i j=some v):iX fun T a b=>cC (tabs lN f=some T) (bU loc i=some (.str a)) (bU loc j=some (.str b)) (v=Dx (i2 a b T none)):=by
 unfold tabAt at h
 cases e:tabs lN f with
 |none=>rw[e]at h;exact aV h
 |some T=>
  rw[e]at h
  cases e1:strAt loc i with
  |none=>rw[e1]at h;exact aV h
  |some a=>
   rw[e1]at h
   cases e2:strAt loc j with
   |none=>rw[e2]at h;exact aV h
   |some b=>rw[e2]at h;exact⟨T,a,b,rfl,ma e1,ma e2,(Option.some.inj h).symm⟩
theorem lI{x:Str}{p1 p2:Pos}{env:Env}{name:Str}{whole:Sem Value}(h:(!sF x "super")=true):attributeBase (.Call (.Name x p2) [] [] p1) name env whole=whole:=by
 have h:(x==Str.ofString "super")=false:=nk h
 unfold attributeBase
 dsimp only
 rw[if_pos (by rw[bne,h];rfl)]
section
variable{w:World}{base:Heap}{n:Nat}{A:Around}{s:Shared}{h₀:Heap}{L:Addr}{m:Str→Option Value}{news:Led}{ρ:Nat→Addr}{H H':HH}{cx:Cx}{env:Env}{loc:Loc}{fl:Bool}{v:MV}{Q:Value→Shared→Prop}
theorem EC(B:Bs base fns){o:Expr}{a:Str}{ap p:Pos}{args:List Expr}{f i j:Nat}(hc:jS cx o a ap args p f i j=true):gI pw w base fns n cx (.Call (.Attribute o a ap) args [] p) (.tab f i j):=by
 intro fl loc H v H' e env A s h₀ L m news ρ Q h P
 obtain⟨x,p1,p2,rfl,c1,c2,rfl,c3,c4⟩:=oO hc
 obtain⟨y1,q1,y2,q2,cc,tp,rfl,k1,k2⟩:=th c4
 obtain⟨u,e1,e2⟩:=Option.map_eq_some_iff.mp e
 obtain⟨T,ka,kb,t1,t2,t3,rfl⟩:=ti e1
 replace P:=P.at (congrArg some e2)
 obtain⟨KT,kinT,ok⟩:=B.tab f T t1
 refine aL (wpAny_Call_method1_late (lI c1) c3 rfl ?_)
 refine jT ?_
 show wpP false _ _ (do callWith p1 (←eval (.Name x p2) env) [] (backTo p1 (starEach [] env)) []) _ s
 refine aT (iF B h.st c2 h.EO h.R fun V hV=> ?_)
 rw[show V=_ from hV.inv]
 obtain⟨K,kin,hkeep⟩:=B.keepG x _ (dI c2).2 f (.inl rfl)
 refine d9 (K:=K) trivial hkeep (ay ⟨fun a o z=>h.st.now h.R _ _ (kin a o z),?_⟩)
 refine da (vK B kinT ok h.A.call (h.st.now h.R) fun d h1 tk1 xs kp hsys D v1=> ?_)
 have hun:=h.A.un
 refine⟨"dict","dict.get",F.plainAttrs_dict,F.slot_dict_get,F.type_dict_get,Heap.DictOfH.typeIs (s:={s with heap:=h1,toks:=tk1}) D,dictOfH_noDict D,wpAny_dict_get1_heap (knd:=tupleKind (PySem.strKind pw w)) (show A.units+1<cLine by omega) hsys ?_⟩
 have R1:=h.R.keeps (h':=h1) kp
 show wpAny _ _ (do standAt tp;newTuple (←spliced [(false,eval (.Name y1 q1) env),(false,eval (.Name y2 q2) env)])) _ _ _
 refine wpAny_bind (wpAny_standAt (wpAny_bind (jT (ft (aL (kA (s:={s with heap:=h1,toks:=tk1}) k1 t2 h.EO R1 h.LO fun V1 hV1=> ?_))))))
 refine ft (aL (kA (s:={s with heap:=h1,toks:=tk1}) k2 t3 h.EO R1 h.LO fun V2 hV2=>ay ?_))
 obtain⟨tt1,rfl,b1⟩:=hV1.strInv
 obtain⟨tt2,rfl,b2⟩:=hV2.strInv
 have kq: ∀b o,h1.get? b=some o→(h1.push {cls:= .type "tuple",data:= .seq #[Value.str (nm ka) tt1,Value.str (nm kb) tt2]}).get? b=some o:=fun b o e=>Heap.get?_push_of_some _ e
 refine wpAny_newObj_type ⟨_,[nm ka,nm kb],xs,rfl,⟨_,_,_,Heap.get?_push_size _ rfl,rfl,rfl,.cons (strKind_is _ _ _ _) (.cons (strKind_is _ _ _ _) .nil)⟩,iH D kq,?_⟩ (show(2:Nat)≤_ by decide)
 have R2:=R1.keeps kq
 have hv:=v1.2 ka kb b1 b2
 cases q:i2 ka kb T none with
 |none=>
  rw[q]at hv P
  rw[show atKey xs [nm ka,nm kb]=none from hv]
  exact P ρ news .none _ _ R2 .refl .none
 |some z=>
  rw[q]at hv P
  obtain⟨hz,pz,tz,z1,z2⟩:=hv
  rw[z1]
  show Q pz.2 _
  rw[z2]
  exact P ρ news _ _ _ R2 .refl (.str z tz hz)
end
section
variable{w:World}{K:Frag}{base:Heap}{n k:Nat}{A:Around}{s:Shared}{h₀:Heap}{L:Addr}{m:Str→Option Value}{news:Led}{ρ:Nat→Addr}{H H':HH}{cx:Cx}{env:Env}{loc:Loc}{fl:Bool}{v:MV}{Q:Value→Shared→Prop}
theorem Ha{α:Type}{a:α}{l:List α}{P:Prop}(e:[]=a::l):P:=nomatch e
theorem ff: ∀{l:List Nat},dF l=true→l.Nodup
 |[],_=>List.nodup_nil
 |a::r,h=>by
  unfold dF at h
  obtain⟨h1,h2⟩:=Bool.and_eq_true_iff.mp h
  refine List.nodup_cons.mpr ⟨fun hm=> ?_,ff h2⟩
  have:=List.all_eq_true.mp h1 a hm
  rw[Nat.beq_refl]at this
  cases this
theorem tj{o:Option Expr}{j:Nat}(h:z6 o j=true):dk fun p1 p2=>o=some (.Constant (.str (nm j)) p1 p2)∧j<223:=by
 cases o with
 |none=>exact bF h
 |some e=>
  cases e with
  |Constant c p1 p2=>
   cases c with
   |str s=>obtain⟨hj,e⟩:=cR h;exact⟨p1,p2,by rw[e],hj⟩
   |_=>exact bF h
  |_=>exact bF h
theorem gZ{ks:List (Option Expr)}{kk:List Nat}(h:f5 ks kk=true):(ks=[]∧kk=[])∨zZ fun p1 p2 r j q=>cC (ks=some (.Constant (.str (nm j)) p1 p2)::r) (kk=j::q) (j<223) (f5 r q=true):=by
 cases ks with
 |nil=>
  cases kk with
  |nil=>exact .inl ⟨rfl,rfl⟩
  |cons=>exact bF h
 |cons o r=>
  cases kk with
  |nil=>exact bF h
  |cons j q=>
   obtain⟨h1,h2⟩:=dI h
   obtain⟨p1,p2,e,hj⟩:=tj h1
   exact .inr ⟨p1,p2,r,j,q,by rw[e],rfl,hj,h2⟩
theorem mc{kk:List Nat}: ∀{ks:List (Option Expr)},f5 ks kk=true→ks.all (·.isSome)=true∧ks.length=kk.length∧ ∀j∈kk,j<223:=by
 induction kk with
 |nil=>
  intro ks h
  rcases gZ h with⟨e,_⟩|⟨_,_,_,_,_,_,e,_⟩
  ·rw[e];exact⟨rfl,rfl,fun _ h=>nomatch h⟩
  ·exact Ha e
 |cons j kk ih=>
  intro ks h
  rcases gZ h with⟨_,e⟩|⟨p1,p2,r,j',q,e1,e2,hj,h⟩
  ·exact Ha e.symm
  ·obtain⟨e3,e4⟩:=List.cons.inj e2
   rw[←e4]at h
   obtain⟨h1,h2,h3⟩:=ih h
   rw[e1]
   refine⟨h1,congrArg Nat.succ h2,fun i hi=> ?_⟩
   rcases List.mem_cons.mp hi with e|hi
   ·rw[e,e3];exact hj
   ·exact h3 i hi
theorem oP: ∀{kk:List Nat},kk.Nodup→(∀j∈kk,j<223)→(kk.map nm).Nodup
 |[],_,_=>List.nodup_nil
 |a::r,h,hl=>by
  obtain⟨h1,h2⟩:=List.nodup_cons.mp h
  refine List.nodup_cons.mpr ⟨fun hm=> ?_,oP h2 fun j hj=>hl j (.tail _ hj)⟩
  obtain⟨j,hj,e⟩:=List.mem_map.mp hm
  exact h1 (i8 (hl j (.tail _ hj)) (hl a (.head _)) e▸hj)
theorem cP.zip {N:Nat}{vs:List MV}: ∀{kk:List Nat}{Vs:List Value},br base ρ N news vs Vs→kk.length=vs.length→cP nm base ρ N news (kk.zip vs) ((kk.map nm).zip Vs):=by
 induction vs with
 |nil=>intro kk Vs _ h;rw[List.length_eq_zero_iff.mp h];exact .nil
 |cons v vs ih=>
  intro kk Vs r h
  obtain⟨V,Ws,e,hv,r⟩:=r.consInv
  rw[e]
  cases kk with
  |nil=>exact Nat.noConfusion h
  |cons j kk=>exact .cons hv (ih r (Nat.succ.inj h))
theorem vL{k:Nat}: ∀{ies:gy}{vs:List MV}{H H':HH}{es:List Expr},dy k cx es ies=true→dT (ao fns n) fl ies loc H=some (vs,H')→vs.length=es.length:=by
 induction k with
 |zero=>intro ies vs H H' es h;exact bF h
 |succ k ih=>
  intro ies vs H H' es h e
  rcases gh h with⟨e1,e2⟩|⟨x,r,a,q,e1,e2,_,h⟩
  ·rw[e2]at e;rw[e1,←(cp e).1];rfl
  ·rw[e2]at e
   obtain⟨y,H1,_,e⟩:=aD e
   obtain⟨ys,H2,e3,e⟩:=aD e
   rw[e1,←(cp e).1,List.length_cons,List.length_cons,ih h e3]
theorem vM{k:Nat}: ∀(_: ∀j,j<k→SE pw w base fns n j){ks:List (Option Expr)}{kk:List Nat}{es:List Expr}{ies:gy},f5 ks kk=true→ks.length=es.length→dy k cx es ies=true→ ∀{vs:List MV}{H H':HH},dT (ao fns n) false ies loc H=some (vs,H')→
  ∀(s:Shared)(news:Led)(ρ:Nat→Addr)(Q:List (Value×Value)→Shared→Prop)(pos:Pos),Here pw w base n A s h₀ L m news ρ H cx env loc→
   (∀ρ' news' Vs pvs h' tk,Rel pw w base h₀ L h' m news' ρ' H'→Ext ρ H.length news ρ' H'.length news'→br base ρ' H'.length news' vs Vs→Carries (strKind pw w) pvs ((kk.map nm).zip Vs)→Q pvs {s with heap:=h',toks:=tk})→
   wpAny (model pw w) A (evalPairs (pairTrees ks es env pos)) Q (fun _ _=>False) s:=by
 induction k with
 |zero=>intro _ ks kk es ies _ _ h;exact bF h
 |succ k ih=>
  intro I ks kk es ies hk hl hc vs H H' e s news ρ Q pos h P
  rcases gh hc with⟨e1,e2⟩|⟨y,r,a,q,e1,e2,c1,c2⟩
  ·rw[e2]at e
   obtain⟨e3,e4⟩:=cp e
   rw[←e3,←e4]at P
   rw[e1]at hl⊢
   rw[List.length_eq_zero_iff.mp hl]
   rw[show kk=[]from List.length_eq_zero_iff.mp ((mc hk).2.1.symm.trans hl)]at P
   exact evalPairs_nil (P ρ news [] [] s.heap s.toks h.R .refl .nil trivial)
  ·rw[e1]at hl⊢
   rcases gZ hk with⟨e3,_⟩|⟨p1,p2,ks,j,kk',e3,e4,hj,hk⟩
   ·rw[e3]at hl;exact Nat.noConfusion hl
   ·rw[e2]at e
    obtain⟨v1,H1,e5,e⟩:=aD e
    obtain⟨vs1,H2,e6,e⟩:=aD e
    obtain⟨e7,e8⟩:=cp e
    rw[←e7,←e8,e4]at P
    rw[e3]at hl⊢
    refine pairTrees_cons_walk (wpAny_mkText ?_)
    refine eu (I k (Nat.lt_succ_self _) c1 e5 (h.next h.R .refl _) fun ρ1 news1 X h1 tk1 R1 x1 hX=> ?_)
    refine ih (fun j hj=>I j (Nat.lt_succ_of_lt hj)) hk (Nat.succ.inj hl) c2 e6 _ _ _ _ pos (h.next R1 x1 tk1) fun ρ2 news2 Vs pvs h2 tk2 R2 x2 hV hC=> ?_
    exact P _ _ _ _ _ _ R2 (x1.trans x2) (.cons (hX.mono x2) hV) ⟨strKind_is _ _ _ _,rfl,hC⟩
theorem tl{h1 h2:Heap}{D:Addr}{o:Obj}{c:MO}{ρ1:Nat→Addr}{news1:Led}{H1:HH}(R1:Rel pw w base h₀ L h1 m news1 ρ1 H1)(xa:Ext ρ H.length news ρ1 H1.length news1)(hfr:D∉news.map (·.1))(hD:(D,emptyDict)∈news1∧cK ρ1 H1.length D)
  (hs:Heap.SameBut D h1 h2)(ho:h2.get? D=some o)(hok:iy pw w base ρ1 H1.length news1 c o):dk fun ρ2 news2=>bx (Rel pw w base h₀ L h2 m news2 ρ2 (H1++[c])) (Ext ρ H.length news ρ2 (H1++[c]).length news2) (aY base ρ2 (H1++[c]).length news2 (.ref H1.length) (.ref D)):=by
 obtain⟨R2,x2⟩:=R1.adopt hD.1 hD.2 (fun _ _ z=>absurd (show Value.type "dict" =Value.type "tuple" from congrArg (fun o:Obj=>o.cls) z) (by decide)) (fun _ _ _ _ _ _ z=>absurd (show Value.type "dict" =Value.type "range" from congrArg (fun o:Obj=>o.cls) z) (by decide)) hs ho hok
 have hl:(H1++[c]).length=H1.length+1:=List.length_append
 refine⟨_,_,R2,⟨Nat.le_trans xa.le x2.le,fun i hi=>(x2.same i (Nat.lt_of_lt_of_le hi xa.le)).trans (xa.same i hi),fun p hp hf=> ?_⟩,?_⟩
 ·obtain⟨p1,p2⟩:=xa.keep p hp hf
  have hne:p.1≠D:=fun z=>hfr (List.mem_map.mpr ⟨p,hp,z⟩)
  refine⟨bC p1 hne,fun i hi z=> ?_⟩
  rw[hl]at hi
  by_cases q:i=H1.length
  ·rw[q,bV]at z;exact hne z.symm
  ·have q':i<H1.length:=i6 (by assumption) (by assumption)
   rw[dq q']at z;exact p2 i q' z
 ·have q:=aY.ref (base:=base) (ρ:=upd ρ1 H1.length D) (N:=(H1++[c]).length) (news:=cW news1 D o) H1.length (hl▸Nat.lt_succ_self _)
  rwa[bV]at q
theorem EF(I: ∀j,j<k→SE pw w base fns n j){ks:List (Option Expr)}{es:List Expr}{kk:List Nat}{as:gy}{pos:Pos}(hk:f5 ks kk=true)(hn:dF kk=true)(hb:kk.length≤15)(hl:ks.length=es.length)(c1:dy k cx es as=true):gI pw w base fns n cx (.Dict ks es pos) (.dsp kk as):=by
 intro fl loc H v H' e env A s h₀ L m news ρ Q h P
 obtain⟨vs,H1,e1,e⟩:=aD e
 obtain⟨k1,k2,k3⟩:=mc hk
 have hvl:=vL c1 e1
 cases kk with
 |nil=>
  have hks:ks=[]:=List.length_eq_zero_iff.mp k2
  have hes:es=[]:=List.length_eq_zero_iff.mp (hl.symm.trans k2)
  rw[hks,hes]
  refine aL (wpAny_Dict_empty ?_)
  have hH:H1=H:=by
   cases k with
   |zero=>exact bF c1
   |succ k=>
    rcases gh c1 with⟨_,z⟩|⟨x,r,a,q,z,_⟩
    ·rw[z]at e1;exact(cp e1).2.symm
    ·exact Ha (hes.symm.trans z)
  rw[hH]at e
  obtain⟨o,ho,hd⟩:=Heap.dictOf_iff.mp (Heap.DictOf.new (knd:=intKind pw w) s.heap)
  rw[Heap.get?_push_size _ rfl]at ho
  rw[←Option.some.inj ho]at hd
  exact(P.at e).alloc h.R (h.R.F.push _) (h.R.N.push h.R.F _) (fun p hp=>Heap.lt_size (h.R.N p hp).1) (.dictI hd .nil) _
 |cons j kk=>
  replace P:=P.at e
  refine aL (wpAny_Dict_walk (knd:=strKind pw w) k1 hl (fun z=>by rw[z]at k2;exact Nat.noConfusion k2) (by rw[k2];exact hb) ?_)
  have hfr:=d7 h.R.N
  obtain⟨R0,x0,f0⟩:=h.R.loose (h.R.F.push _) (h.R.N.push h.R.F emptyDict) hfr
  have h0:Here pw w base n A {s with heap:=s.heap.push emptyDict} h₀ L m ((s.heap.objs.size,emptyDict)::news) ρ H cx env loc:=⟨h.A,h.st,h.EO,R0,h.LO.mono x0⟩
  refine vM I hk hl c1 e1 _ _ _ _ pos h0 fun ρ1 news1 Vs pvs h1 tk1 R1 x1 hV hC=> ?_
  have hD:=x1.keep (s.heap.objs.size,emptyDict) (.head _) f0
  have hVl:=hV.length
  have hkn:(((j::kk).map nm).zip Vs).map (·.1)=(j::kk).map nm:=by
   rw[List.map_fst_zip]
   rw[List.length_map,hVl,hvl,←hl,k2]
   exact Nat.le_refl _
  have hnd:((((j::kk).map nm).zip Vs).map (·.1)).Nodup:=by rw[hkn];exact oP (ff hn) k3
  refine⟨_,hC,?_,fun h2 hd2 hs2=> ?_⟩
  ·obtain⟨o,ho,hd⟩:=Heap.dictOf_iff.mp (Heap.DictOf.new (knd:=strKind pw w) s.heap)
   rw[Heap.get?_push_size _ rfl]at ho
   rw[←Option.some.inj ho]at hd
   exact Heap.dictOf_iff.mpr ⟨_,(R1.N _ hD.1).1,hd⟩
  ·rw[merged_nil_of_nodup _ hnd]at hd2
   obtain⟨o,ho,hd⟩:=Heap.dictOf_iff.mp hd2
   have hok:iy pw w base ρ1 H1.length news1 (.dictS ((j::kk).zip vs)) o:= .dictS hd (fun p hp=>k3 _ (List.of_mem_zip hp).1) (cP.zip hV (by rw[hvl,←hl,k2]))
   obtain⟨ρ2,news2,R2,xx,hr⟩:=tl R1 (x0.trans x1) hfr hD hs2 ho hok
   exact P _ _ _ _ _ R2 xx hr
end
noncomputable def fU(o:Obj):Prop:=(∀Vs k,o≠eR Vs k)∧(∀a b c t u v,o≠fE a b c t u v)∧ ∀x,o.data≠ .cell x
structure eL(bad:Addr→Prop)(ρ:Nat→Addr)(N:Nat)(news:Led)(ρ':Nat→Addr)(N':Nat)(news':Led):Prop where
 le:N≤N'
 same: ∀i,i<N→ρ' i=ρ i
 keep: ∀p∈news,¬bad p.1→cK ρ N p.1→p∈news'∧cK ρ' N' p.1
section
variable{w:World}{base h₀ h h':Heap}{L:Addr}{m:Str→Option Value}{news news' news'':Led}{ρ ρ' ρ'':Nat→Addr}{N N' N'':Nat}{H:HH}{bad:Addr→Prop}{cx:Cx}{env:Env}{loc:Loc}
theorem eL.refl:eL bad ρ N news ρ N news:=⟨Nat.le_refl _,fun _ _=>rfl,fun _ hp _ hf=>⟨hp,hf⟩⟩
theorem eL.trans (x:eL bad ρ N news ρ' N' news')(y:eL bad ρ' N' news' ρ'' N'' news''):eL bad ρ N news ρ'' N'' news'':=
 ⟨Nat.le_trans x.le y.le,fun i hi=>(y.same i (Nat.lt_of_lt_of_le hi x.le)).trans (x.same i hi),fun p hp hb hf=>let ⟨a,b⟩:=x.keep p hp hb hf;y.keep p a hb b⟩
theorem Ext.toB (x:Ext ρ N news ρ' N' news'):eL bad ρ N news ρ' N' news':=⟨x.le,x.same,fun p hp _ hf=>x.keep p hp hf⟩
theorem eL.ext (x:eL bad ρ N news ρ' N' news')(h: ∀p∈news,¬bad p.1):Ext ρ N news ρ' N' news':=⟨x.le,x.same,fun p hp hf=>x.keep p hp (h p hp) hf⟩
theorem eL.to0 (x:eL bad ρ N news ρ' N' news')(h: ∀p∈news,bad p.1→fU p.2):ki ρ N news ρ' N' news':=
 ⟨x.le,x.same,fun a Vs k hm hf=>x.keep _ hm (fun hb=>(h _ hm hb).1 _ _ rfl) hf,fun r a b c t u v hm hf=>x.keep _ hm (fun hb=>(h _ hm hb).2.1 _ _ _ _ _ _ rfl) hf⟩
theorem bW.monoB (x:eL bad ρ N news ρ' N' news')(hb: ∀p∈news,bad p.1→fU p.2){y:Str}{v:MV}(h:bW base ρ N news cx env m y v):bW base ρ' N' news' cx env m y v:=by
 refine h.map (fun h2=>h2.mono0 (x.to0 hb)) fun c o V h2 h3 h4 h5=> ?_
 obtain⟨h2',h3'⟩:=x.keep _ h2 (fun z=>(hb _ h2 z).2.2 _ h4) h3
 exact⟨h2',h3',h5.mono0 (x.to0 hb)⟩
theorem cL.monoB (x:eL bad ρ N news ρ' N' news')(hb: ∀p∈news,bad p.1→fU p.2)(h:cL base ρ N news cx env m loc):cL base ρ' N' news' cx env m loc:=
 ⟨h.nd,h.len,fun i y v a b=>(h.at_ i y v a b).monoB x hb,h.noFree⟩
theorem Rel.swap (R:Rel pw w base h₀ L h m news ρ H){I:Addr}{ob o:Obj}(hm:(I,ob)∈news)(hf:cK ρ H.length I)(hi:fU ob)(hs:Heap.SameBut I h h')(ho:h'.get? I=some o):
  Rel pw w base h₀ L h' m (cW news I o) ρ H∧eL (· =I) ρ H.length news ρ H.length (cW news I o):=by
 have x:eL (· =I) ρ H.length news ρ H.length (cW news I o):=⟨Nat.le_refl _,fun _ _=>rfl,fun p hp hb hf=>⟨bC hp hb,hf⟩⟩
 have x0:=x.to0 fun p hp hb=>by
  have:=gf R.nd hm hp hb.symm
  rw[←this];exact hi
 have ND:=R.N _ hm
 refine⟨⟨R.F.change hs ND.2.1 ND.2.2,fun p hp=> ?_,by rw[gA];exact R.nd,R.inj,fun i o' e=> ?_⟩,x⟩
 ·rcases gc hp with rfl|⟨hp,hne⟩
  ·exact⟨ho,ND.2⟩
  ·exact⟨(hs.2 _ hne).trans (R.N p hp).1,(R.N p hp).2⟩
 ·obtain⟨ob',hm',ho'⟩:=R.cell i o' e
  exact⟨ob',bC hm' (hf i (cE e)),ho'.mono0 x0⟩
noncomputable def cut(news:Led)(I:Addr):Led:=news.filter fun p=>decide (p.1≠I)
theorem cF{I:Addr}{p:Addr×Obj}:p∈cut news I↔p∈news∧p.1≠I:=by unfold cut;simp
theorem Rel.drop (R:Rel pw w base h₀ L h m news ρ H){I:Addr}{ob:Obj}(hm:(I,ob)∈news)(hf:cK ρ H.length I)(hi:fU ob):
  Rel pw w base h₀ L h m (cut news I) ρ H∧eL (· =I) ρ H.length news ρ H.length (cut news I):=by
 have x:eL (· =I) ρ H.length news ρ H.length (cut news I):=⟨Nat.le_refl _,fun _ _=>rfl,fun p hp hb hf=>⟨cF.mpr ⟨hp,hb⟩,hf⟩⟩
 have x0:=x.to0 fun p hp hb=>by
  have:=gf R.nd hm hp hb.symm
  rw[←this];exact hi
 refine⟨⟨R.F,fun p hp=>R.N p (cF.mp hp).1,(List.Sublist.map _ List.filter_sublist).nodup R.nd,R.inj,fun i o' e=> ?_⟩,x⟩
 obtain⟨ob',hm',ho'⟩:=R.cell i o' e
 exact⟨ob',cF.mpr ⟨hm',hf i (cE e)⟩,ho'.mono0 x0⟩
theorem Rel.but (R:Rel pw w base h₀ L h m news ρ H){I:Addr}(hI: ∀p∈news,p.1≠I)(hL:L≠I)(h0:h₀.get? I=none)(hk: ∀b o,b≠I→h.get? b=some o→h'.get? b=some o):Rel pw w base h₀ L h' m news ρ H:=by
 refine R.heap ⟨?_,fun b o e=>hk b o (fun z=>by subst z;rw[h0]at e;cases e) (R.F.keep b o e),R.F.above⟩ fun p hp=>⟨hk _ _ (hI p hp) (R.N p hp).1,(R.N p hp).2⟩
 obtain⟨o,es,ep,ho,r⟩:=R.F.ns
 exact⟨o,es,ep,hk _ _ hL ho,r⟩
end
noncomputable def cA(src:MV)(V:Value)(i:Nat)(o:Obj):Prop:=match src,V with
 | .ref _,.ref l=>o.cls= .type "list_iterator" ∧o.data= .fields #[.ref l,.int (i:Int) 0]
 | .tup _,.ref t=>o.cls= .type "tuple_iterator" ∧o.data= .fields #[.ref t,.int (i:Int) 0]
 | .rng a b,_=>o={cls:= .type "range_iterator",dict:=none,data:= .fields #[rawInt (a+i),rawInt (Builtin.Range.rangeSize a b 1 - i),rawInt 1],slots:= #[]}
 |_,_=>False
theorem cA.inv {src:MV}{V:Value}{i:Nat}{o:Obj}(h:cA src V i o):(∃l,V= .ref l∧((o.cls= .type "list_iterator" ∧o.data= .fields #[.ref l,.int (i:Int) 0])∨(o.cls= .type "tuple_iterator" ∧o.data= .fields #[.ref l,.int (i:Int) 0])))∨
  ∃a b,o={cls:= .type "range_iterator",dict:=none,data:= .fields #[rawInt a,rawInt b,rawInt 1],slots:= #[]}:=by
 cases src with
 |ref=>
  cases V with
  |ref l=>exact .inl ⟨l,rfl,.inl h⟩
  |_=>exact h.elim
 |tup=>
  cases V with
  |ref l=>exact .inl ⟨l,rfl,.inr h⟩
  |_=>exact h.elim
 |rng=>exact .inr ⟨_,_,h⟩
 |_=>exact h.elim
theorem kF{o:Obj}{c:String}{vs:Array Value}(h1:o.cls= .type c)(h2:o.data= .fields vs)(n1:Value.type "tuple" ≠ .type c)(n2:Value.type "range" ≠ .type c):fU o:=
 ⟨fun _ _ e=>n1 (by rw[e]at h1;exact h1),fun _ _ _ _ _ _ e=>n2 (by rw[e]at h1;exact h1),fun x e=>by rw[h2]at e;exact nomatch e⟩
theorem cA.inert {src:MV}{V:Value}{i:Nat}{o:Obj}(h:cA src V i o):fU o:=by
 rcases h.inv with⟨l,_,⟨h1,h2⟩|⟨h1,h2⟩⟩|⟨a,b,e⟩
 ·exact kF h1 h2 (by decide) (by decide)
 ·exact kF h1 h2 (by decide) (by decide)
 ·exact kF (congrArg Obj.cls e) (congrArg Obj.data e) (by decide) (by decide)
section
variable{w:World}{base h₀ h h':Heap}{L:Addr}{m:Str→Option Value}{news:Led}{ρ:Nat→Addr}{H:HH}{A:Around}{s:Shared}{E:Value→Shared→Prop}
theorem qw{a b:Int}{i:Nat}{r:Option MV}(h:itemAt H (.rng a b) i=some r):a.natAbs<2 ^ 40∧b.natAbs<2 ^ 40∧r=if a+i<b then some (.int (a+i))else none:=by
 obtain⟨hc,h⟩:=aO (show(if(decide (a.natAbs<2 ^ 40)&&decide (b.natAbs<2 ^ 40))=true then some (if a+i<b then some (.int (a+i))else none)else none)=some r from h)
 obtain⟨h1,h2⟩:=Bool.and_eq_true_iff.mp hc
 exact⟨of_decide_eq_true h1,of_decide_eq_true h2,(Option.some.inj h).symm⟩
theorem kG{n i:Nat}{r:Option MV}(e:itemAt H (.ref n) i=some r): ∃xs,H[n]? =some (.list xs)∧xs[i]? =r:=by
 have e:(match H[n]? with|some (.list xs)=>some xs[i]? |_=>none)=some r:=e
 cases q:H[n]? with
 |none=>rw[q]at e;exact aV e
 |some o=>
  rw[q]at e
  cases o with
  |list xs=>exact⟨xs,rfl,Option.some.inj e⟩
  |_=>exact aV e
theorem oQ{N i:Nat}{xs:List MV}{Vs:List Value}(r:br base ρ N news xs Vs)(e:xs[i]? =none):Vs.toArray[i]? =none:=by
 rw[List.getElem?_toArray]
 exact List.getElem?_eq_none (by rw[r.length];exact List.getElem?_eq_none_iff.mp e)
theorem kH{src:MV}{V:Value}{r:Option MV}(e:itemAt H src 0=some r){Q:Value→Shared→Prop}(R:Rel pw w base h₀ L s.heap m news ρ H)(hv:aY base ρ H.length news src V)
  (h: ∀o,cA src V 0 o→o.isFreed=false→Q (.ref s.heap.objs.size) {s with heap:=s.heap.push o}):wpAny (model pw w) A (pyIter V) Q E s:=by
 cases src with
 |ref n=>
  obtain⟨xs,h1,_⟩:=kG e
  obtain⟨Vs,k,m1,_⟩:=R.listAt h1
  rw[hv.refInv.1]at h⊢
  exact wpAny_pyIter_list (bZ R.N m1) (h _ ⟨rfl,rfl⟩ rfl)
 |tup xs=>
  obtain⟨a,Vs,k,e1,hm,_⟩:=hv.tupInv
  rw[e1]at h⊢
  exact wpAny_pyIter_tuple (bO R.N hm) (h _ ⟨rfl,rfl⟩ rfl)
 |rng a b=>
  obtain⟨h1,h2,_⟩:=qw e
  obtain⟨r,t,u,v,e1,hm,_⟩:=hv.rngInv
  rw[e1]at h⊢
  refine wpAny_pyIter_range (R.N _ hm).1 (small_one (DN h1) (DO h1) (DN h2) (DO h2)) (h _ ?_ rfl)
  show _=_
  simp
 |_=>exact aV e
theorem nv{src:MV}{V:Value}{I:Addr}{i:Nat}{o:Obj}{x:MV}(e:itemAt H src i=some (some x)){Q:Option Value→Shared→Prop}(R:Rel pw w base h₀ L s.heap m news ρ H)(hv:aY base ρ H.length news src V)
  (hm:(I,o)∈news)(ho:cA src V i o)
  (h: ∀X h' o' tk,aY base ρ H.length news x X→cA src V (i+1) o'→Heap.SameBut I s.heap h'→h'.get? I=some o'→Q (some X) {s with heap:=h',toks:=tk}):wpAny (model pw w) A (pyNext (.ref I)) Q E s:=by
 have hI:=(R.N _ hm).1
 cases src with
 |ref n=>
  obtain⟨xs,h1,e⟩:=kG e
  obtain⟨Vs,k,m1,r1⟩:=R.listAt h1
  obtain⟨X,hX,hx⟩:=r1.get e
  rw[hv.refInv.1]at h ho
  refine wpAny_pyNext_list_item ⟨o,hI,ho.1,ho.2⟩ (bZ R.N m1) (x:=X) (by rw[List.getElem?_toArray];exact hX) fun h' hit hs=> ?_
  obtain⟨o',ho',c⟩:=hit
  exact h X h' o' _ hx c hs ho'
 |tup xs=>
  obtain⟨a,Vs,k,e1,hm',_,hr⟩:=hv.tupInv
  obtain⟨X,hX,hx⟩:=hr.get (show xs[i]? =some x from Option.some.inj e)
  rw[e1]at h ho
  refine wpAny_pyNext_tuple_item ⟨o,hI,ho.1,ho.2⟩ (bO R.N hm') (x:=X) (by rw[List.getElem?_toArray];exact hX) fun h' hit hs=> ?_
  obtain⟨o',ho',c⟩:=hit
  exact h X h' o' _ hx c hs ho'
 |rng a b=>
  obtain⟨h1,h2,h3⟩:=qw e
  by_cases hlt:a+i<b
  ·rw[if_pos hlt]at h3
   rw[show o=_ from ho]at hI
   rw[Option.some.inj h3]at h
   have hsz:(i:Int)<Builtin.Range.rangeSize a b 1:=by rw[rangeSize_one];exact GU hlt
   refine wpAny_pyNext_range_item hI (Int.sub_pos_of_lt hsz) fun h' hit hs=> ?_
   refine h _ h' _ _ (.int _ _) ?_ hs hit
   show _=_
   have e1:a+(i:Int)+1=a+((i+1:Nat):Int):=DR
   have e2:Builtin.Range.rangeSize a b 1 - (i:Int) - 1=Builtin.Range.rangeSize a b 1 - ((i+1:Nat):Int):=DS
   rw[e1,e2]
  ·rw[if_neg hlt]at h3
   exact nomatch h3
 |_=>exact aV e
theorem qx{src:MV}{V:Value}{I:Addr}{i:Nat}{o:Obj}(e:itemAt H src i=some none){Q:Option Value→Shared→Prop}(hh:A.handled=none)(R:Rel pw w base h₀ L s.heap m news ρ H)(hv:aY base ρ H.length news src V)
  (hm:(I,o)∈news)(ho:cA src V i o)
  (h: ∀h',(∀b o,b≠I→s.heap.get? b=some o→h'.get? b=some o)→Q none {s with heap:=h'}):wpAny (model pw w) A (pyNext (.ref I)) Q E s:=by
 have hI:=(R.N _ hm).1
 cases src with
 |ref n=>
  obtain⟨xs,h1,e⟩:=kG e
  obtain⟨Vs,k,m1,r1⟩:=R.listAt h1
  rw[hv.refInv.1]at ho
  exact wpAny_pyNext_list_end hh ⟨o,hI,ho.1,ho.2⟩ (bZ R.N m1) (oQ r1 e) fun h' hs=>h h' hs
 |tup xs=>
  obtain⟨a,Vs,k,e1,hm',_,hr⟩:=hv.tupInv
  rw[e1]at ho
  exact wpAny_pyNext_tuple_end hh ⟨o,hI,ho.1,ho.2⟩ (bO R.N hm') (oQ hr (show xs[i]? =none from Option.some.inj e)) fun h' hs=>h h' hs
 |rng a b=>
  obtain⟨h1,h2,h3⟩:=qw e
  by_cases hlt:a+i<b
  ·rw[if_pos hlt]at h3
   exact nomatch h3
  ·rw[show o=_ from ho]at hI
   have hsz:Builtin.Range.rangeSize a b 1≤(i:Int):=by rw[rangeSize_one];exact DT hlt
   exact wpAny_pyNext_range_end hh hI (Int.sub_nonpos_of_le hsz) fun h' hs=>h h' hs
 |_=>exact aV e
end
theorem gj{o:Obj}{m:Str→Option Value}(h:LCg.NsObj o m):fU o:=by
 obtain⟨es,ep,hd,_⟩:=h
 refine⟨fun _ _ e=> ?_,fun _ _ _ _ _ _ e=> ?_,fun x e=> ?_⟩
 ·subst e;cases hd
 ·subst e;cases hd
 ·rw[hd]at e;cases e
section
variable{w:World}{base h₀ h h':Heap}{L:Addr}{m:Str→Option Value}{news news':Led}{ρ ρ':Nat→Addr}{N N':Nat}{H:HH}{A:Around}{s:Shared}{E:Value→Shared→Prop}
theorem Rel.reframe (R:Rel pw w base h₀ L h m news ρ H){C:Addr}{oC:Obj}{m₂:Str→Option Value}(hm:(C,oC)∈news)(hf:cK ρ H.length C)(hn:LCg.NsObj oC m₂)(hC:h₀.objs.size≤C):
  ∃oL,cC (LCg.NsObj oL m) (cK ρ H.length L) (Rel pw w base h₀ C h m₂ ((L,oL)::cut news C) ρ H) (eL (· =C) ρ H.length news ρ H.length ((L,oL)::cut news C)):=by
 obtain⟨oL,heL,hoL⟩:=LCg.ns_obj R.F.ns
 obtain⟨Rd,xd⟩:=R.drop hm hf (gj hn)
 have hL0:h₀.get? L=none:=Heap.get?_none_of_le R.F.above
 have hfL:cK ρ H.length L:=fun i hi e=>by
  obtain⟨ob,hm',_⟩:=R.cell i _ (List.getElem?_eq_getElem hi)
  exact(R.N _ hm').2.1 e
 have hne:C≠L:=(R.N _ hm).2.1
 have xl:Ext ρ H.length (cut news C) ρ H.length ((L,oL)::cut news C):=⟨Nat.le_refl _,fun _ _=>rfl,fun p hp f=>⟨.tail _ hp,f⟩⟩
 refine⟨oL,hoL,hfL,⟨⟨hn.ns (R.N _ hm).1,R.F.keep,hC⟩,fun p hp=> ?_,List.nodup_cons.mpr ⟨fun hk=> ?_,Rd.nd⟩,R.inj,fun i o e=> ?_⟩,xd.trans xl.toB⟩
 ·rcases List.mem_cons.mp hp with rfl|hp
  ·exact⟨heL,Ne.symm hne,hL0⟩
  ·obtain⟨h1,h2⟩:=cF.mp hp
   exact⟨(R.N p h1).1,h2,(R.N p h1).2.2⟩
 ·obtain⟨p,hp,e⟩:=List.mem_map.mp hk
  exact(R.N p (cF.mp hp).1).2.1 e
 ·obtain⟨ob,h1,h2⟩:=Rd.cell i o e
  exact⟨ob,.tail _ h1,h2.mono xl⟩
theorem Rel.store (R:Rel pw w base h₀ L h m news ρ H){m':Str→Option Value}(hn:h'.Ns L m')(hs:Heap.SameBut L h h'):Rel pw w base h₀ L h' m' news ρ H:=R.heap (R.F.set hn hs) (R.N.set hs)
theorem yU{src:MV}{V:Value}{I:Addr}{i:Nat}{o:Obj}{Q:Value→Shared→Prop}(hI:s.heap.get? I=some o)(ho:cA src V i o)(h:Q (.ref I) s):wpAny (model pw w) A (pyIter (.ref I)) Q E s:=by
 rcases ho.inv with⟨l,_,ho|ho⟩|⟨a,b,e⟩
 ·exact wpAny_pyIter_listiter ⟨o,hI,ho⟩ h
 ·exact wpAny_pyIter_tupleiter ⟨o,hI,ho⟩ h
 ·rw[e]at hI;exact wpAny_pyIter_rangeiter hI h
end
section
variable{w:World}{K:Frag}{base:Heap}{n k:Nat}{A:Around}{s:Shared}{h₀:Heap}{L:Addr}{m:Str→Option Value}{news:Led}{ρ:Nat→Addr}{H H':HH}{cx:Cx}{env:Env}{loc:Loc}{fl:Bool}{v:MV}{Q:Value→Shared→Prop}{E:Value→Shared→Prop}
theorem de: ∀{l:List Str},eQ l=true→l.Nodup
 |[],_=>List.nodup_nil
 |a::r,h=>by
  obtain⟨h1,h2⟩:=Bool.and_eq_true_iff.mp (show(_&&eQ r)=true from h)
  refine List.nodup_cons.mpr ⟨fun hm=> ?_,de h2⟩
  have:=List.all_eq_true.mp h1 a hm
  rw[beq_self_eq_true]at this
  cases this
theorem jC{y:Str}{r:List Str}{caps:List Nat}(h:f9 cx (y::r) caps=true):dk fun i q=>cC (caps=i::q) (cx.locs[i]? =some y) (cx.sc.lookup y=some .cell) (f9 cx r q=true):=by
 cases caps with
 |nil=>exact bF h
 |cons i q=>
  obtain⟨h1,h2⟩:=dI (show(_&&f9 cx r q)=true from h)
  obtain⟨h3,h4⟩:=dI h1
  refine⟨i,q,rfl,?_,?_,h2⟩
  ·cases e:cx.locs[i]? with
   |none=>rw[e]at h3;exact bF h3
   |some z=>rw[e]at h3;rw[eq_of_beq h3]
  ·cases e:cx.sc.lookup y with
   |none=>rw[e]at h4;exact bF h4
   |some k=>
    rw[e]at h4
    cases k with
    |cell=>rfl
    |_=>exact bF h4
theorem tm{i:Nat}{r:List Nat}{cs:List MV}(e:jN loc (i::r)=some cs):dk fun v l=>bx (cs=v::l) (loc[i]? =some v) (jN loc r=some l):=by
 have e:(match bU loc i,jN loc r with|some v,some l=>some (v::l)|_,_=>none)=some cs:=e
 cases q1:bU loc i with
 |none=>rw[q1]at e;exact aV e
 |some v=>
  cases q2:jN loc r with
  |none=>rw[q1,q2]at e;exact aV e
  |some l=>rw[q1,q2]at e;exact⟨v,l,(Option.some.inj e).symm,(fG q1).2,rfl⟩
theorem jf{fr:List Str}: ∀{caps:List Nat},f9 cx fr caps=true→ ∀y∈fr,cx.sc.lookup y=some .cell:=by
 induction fr with
 |nil=>intro _ _ _ h;exact nomatch h
 |cons y r ih=>
  intro caps h z hz
  obtain⟨i,q,_,_,h2,h3⟩:=jC h
  rcases List.mem_cons.mp hz with e|hz
  ·rw[e];exact h2
  ·exact ih h3 z hz
theorem jD{fr:List Str}: ∀{caps:List Nat}{cs:List MV},f9 cx fr caps=true→jN loc caps=some cs→cs.length=fr.length∧ ∀(i:Nat)(y:Str)(u:MV),fr[i]? =some y→cs[i]? =some u→ ∃j:Nat,cx.locs[j]? =some y∧loc[j]? =some u:=by
 induction fr with
 |nil=>
  intro caps cs h e
  cases caps with
  |nil=>rw[←Option.some.inj e];exact⟨rfl,fun i y u h=>nomatch h⟩
  |cons=>exact bF h
 |cons y r ih=>
  intro caps cs h e
  obtain⟨j,q,ec,h1,_,h2⟩:=jC h
  rw[ec]at e
  obtain⟨v,l,e1,e2,e3⟩:=tm e
  obtain⟨h3,h4⟩:=ih h2 e3
  rw[e1]
  refine⟨congrArg Nat.succ h3,fun i z u hz hu=> ?_⟩
  cases i with
  |zero=>rw[←Option.some.inj (show some y=some z from hz),←Option.some.inj (show some v=some u from hu)];exact⟨j,h1,e2⟩
  |succ i=>exact h4 i z u hz hu
noncomputable def cellAt(env:Env)(y:Str):Addr:=(env.cells.lookup y).getD 0
noncomputable def gk(env:Env)(l:List Str):List (Str×Addr):=l.map fun y=>(y,cellAt env y)
theorem gM{y:Str}: ∀{l:List Str},y∈l→(gk env l).lookup y=some (cellAt env y)
 |[],h=>nomatch h
 |z::r,h=>by
  show List.lookup y ((z,cellAt env z)::gk env r)=_
  rw[List.lookup_cons]
  cases e:y==z with
  |true=>rw[beq_iff_eq.mp e]
  |false=>
   refine gM ?_
   rcases List.mem_cons.mp h with rfl|h
   ·rw[beq_self_eq_true]at e;cases e
   ·exact h
theorem kI{scope:Scope}(hc: ∀y∈di scope,(env.cells.lookup y).isSome=true):closureFor scope env=pure (gk env (di scope).reverse):=by
 have key: ∀(l:List (Str×NameKind))(cs:List (Str×Addr)),(∀y∈(l.filter fun p=>p.2== .free).map (·.1),(env.cells.lookup y).isSome=true)→
   (forIn l cs fun x r=>(if(x.2==NameKind.free)=true then cellOf env x.1>>=fun c=>pure (ForInStep.yield ((x.1,c)::r))else pure (ForInStep.yield r):Sem (ForInStep (List (Str×Addr)))))=
    pure (gk env ((l.filter fun p=>p.2== .free).map (·.1)).reverse++cs):=by
  intro l
  induction l with
  |nil=>intro cs _;rfl
  |cons x l ih=>
   intro cs h
   obtain⟨z,kd⟩:=x
   rw[List.forIn_cons]
   dsimp only
   cases e:kd==NameKind.free with
   |false=>
    simp only[Bool.false_eq_true,if_false]
    have q:(((z,kd)::l).filter fun p=>p.2== .free)=l.filter fun p=>p.2== .free:=by rw[List.filter_cons];simp[e]
    rw[q]at h⊢
    exact ih cs h
   |true=>
    simp only[if_true]
    have q:(((z,kd)::l).filter fun p=>p.2== .free)=(z,kd)::l.filter fun p=>p.2== .free:=by rw[List.filter_cons];simp[e]
    rw[q]at h⊢
    obtain⟨c,hc⟩:=Option.isSome_iff_exists.mp (h z (.head _))
    have e1:cellOf env z=pure (cellAt env z):=by unfold cellOf cellAt;rw[hc];rfl
    rw[e1]
    refine(ih ((z,cellAt env z)::cs) fun y hy=>h y (.tail _ hy)).trans ?_
    simp[gk]
 unfold closureFor
 have:=key scope.names [] hc
 rw[List.append_nil]at this
 exact(bind_pure _).trans this
theorem vN(scope:Scope)(EO:dJ cx L env):(relabel scope env).names=f7 scope.names cx.sc:=by
 unfold relabel f7
 dsimp only
 refine List.map_congr_left fun x _=> ?_
 obtain⟨y,kd⟩:=x
 dsimp only
 have hkn:env.kindOf y=cx.sc.lookup y:=by unfold Env.kindOf;rw[EO.names]
 rw[EO.kind,hkn,show(ScopeKind.function==ScopeKind.function)=true from rfl,Bool.and_true]
theorem iI{x:Str}{names sc:List (Str×NameKind)}{kd:NameKind}(h:(f7 names sc).lookup x=some kd): ∃k0,bx (names.lookup x=some k0) ((kd=k0∨(k0= .free∧sc.lookup x=some .cell∧kd= .cell))) (¬(kd= .free∧sc.lookup x=some .cell)):=by
 induction names with
 |nil=>cases h
 |cons p r ih=>
  obtain⟨y,kd'⟩:=p
  unfold f7 at h
  rw[List.map_cons]at h
  dsimp only at h
  by_cases q:(kd'==NameKind.free&&sc.lookup y==some .cell)=true
  ·rw[if_pos q,List.lookup_cons]at h
   rw[List.lookup_cons]
   cases e:x==y with
   |true=>
    rw[e]at h
    cases h
    rw[beq_iff_eq.mp e]
    simp only[Bool.and_eq_true,beq_iff_eq]at q
    exact⟨_,rfl,.inr ⟨q.1,q.2,rfl⟩,fun z=>by cases z.1⟩
   |false=>rw[e]at h;exact ih h
  ·rw[if_neg q,List.lookup_cons]at h
   rw[List.lookup_cons]
   cases e:x==y with
   |true=>
    rw[e]at h
    cases h
    rw[beq_iff_eq.mp e]
    refine⟨_,rfl,.inl rfl,fun z=>q ?_⟩
    simp[z.1,z.2]
   |false=>rw[e]at h;exact ih h
theorem qy{x:Str}{names sc:List (Str×NameKind)}(nd:(names.map (·.1)).Nodup)(h:x∈(names.filter fun p=>p.2== .free).map (·.1))(hs:sc.lookup x=some .cell):(f7 names sc).lookup x=some .cell:=by
 induction names with
 |nil=>cases h
 |cons p r ih=>
  obtain⟨y,kd'⟩:=p
  obtain⟨n1,n2⟩:=List.nodup_cons.mp nd
  unfold f7
  rw[List.map_cons]
  dsimp only
  by_cases e:x=y
  ·subst e
   have hk:kd'= .free:=by
    cases e2:kd'==NameKind.free with
    |true=>exact beq_iff_eq.mp e2
    |false=>
     have q:(((x,kd')::r).filter fun p=>p.2== .free)=r.filter fun p=>p.2== .free:=by rw[List.filter_cons];simp[e2]
     rw[q]at h
     obtain⟨p,hp,e3⟩:=List.mem_map.mp h
     exact absurd (List.mem_map.mpr ⟨p,(List.mem_filter.mp hp).1,e3⟩) n1
   subst hk
   rw[hs]
   simp
  ·have hb:(x==y)=false:=beq_eq_false_iff_ne.mpr e
   have h':x∈(r.filter fun p=>p.2== .free).map (·.1):=by
    obtain⟨p,hp,e3⟩:=List.mem_map.mp h
    obtain⟨hp1,hp2⟩:=List.mem_filter.mp hp
    rcases List.mem_cons.mp hp1 with rfl|hp1
    ·exact absurd e3.symm e
    ·exact List.mem_map.mpr ⟨p,List.mem_filter.mpr ⟨hp1,hp2⟩,e3⟩
   have:=ih n2 h'
   by_cases q:(kd'==NameKind.free&&sc.lookup y==some .cell)=true
   ·rw[if_pos q,List.lookup_cons,hb];exact this
   ·rw[if_neg q,List.lookup_cons,hb];exact this
structure eU(cx:Cx)(scope:Scope)(x:Str)(caps:List Nat):Prop where
 nd:(x::di scope).Nodup
 loc:scope.names.lookup x=some .local
 kind:scope.kind= .function
 all: ∀p∈scope.names,p.2= .local∨p.2= .free∨p.2= .globalImplicit
 nnd:(scope.names.map (·.1)).Nodup
 caps:f9 cx (di scope) caps=true
noncomputable abbrev md (scope:Scope)(C:Addr)(env:Env):Env:=compEnvC scope (gk env (di scope).reverse) C env
theorem eU.envOk {scope:Scope}{x:Str}{caps:List Nat}(c:eU cx scope x caps)(EO:dJ cx L env)(C:Addr):dJ (gG cx scope x) C (md scope C env):=
 ⟨c.kind,vN scope EO,rfl,EO.glob,EO.bi⟩
theorem eU.locs {scope:Scope}{x:Str}{caps:List Nat}(c:eU cx scope x caps){cs:List MV}(hcs:jN loc caps=some cs){N:Nat}{C:Addr}{m₂:Str→Option Value}(LO:cL base ρ N news cx env m loc)
  {u:MV}{U:Value}(hU:aY base ρ N news u U)(hm:m₂ x=some U):cL base ρ N news (gG cx scope x) (md scope C env) m₂ (u::cs):=by
 obtain⟨hl,hv⟩:=jD c.caps hcs
 have hx:(f7 scope.names cx.sc).lookup x=some .local:=by
  cases e:(f7 scope.names cx.sc).lookup x with
  |none=>
   have: ∀names:List (Str×NameKind),(f7 names cx.sc).lookup x=none→names.lookup x=none:=by
    intro names
    induction names with
    |nil=>intro _;rfl
    |cons p r ih=>
     obtain⟨y,kd⟩:=p
     unfold f7
     rw[List.map_cons]
     dsimp only
     intro h
     rw[List.lookup_cons]
     cases e:x==y with
     |true=>
      split at h<;>(rw[List.lookup_cons,e]at h;cases h)
     |false=>
      refine ih ?_
      split at h<;>(rw[List.lookup_cons,e]at h;exact h)
   have q:=this _ e
   rw[c.loc]at q
   cases q
  |some kd=>
   obtain⟨k0,h1,h2,h3⟩:=iI e
   rw[c.loc]at h1
   cases h1
   rcases h2 with h2|⟨h2,_⟩
   ·rw[h2]
   ·cases h2
 refine⟨c.nd,by rw[List.length_cons,List.length_cons,hl],fun i y z hi hz=> ?_,fun y hy=> ?_⟩
 ·cases i with
  |zero=>
   simp at hi hz
   subst hi;subst hz
   unfold bW
   rw[hx]
   exact .inr ⟨U,hm,hU⟩
  |succ i=>
   simp at hi hz
   obtain⟨j,j1,j2⟩:=hv i y z hi hz
   have q:=LO.at_ j y z j1 j2
   have hy:y∈di scope:=List.mem_of_getElem? hi
   have hcell:=jf c.caps y hy
   unfold bW at q⊢
   rw[hcell]at q
   rw[qy c.nnd hy hcell]
   obtain⟨cc,o,V,q1,q2,q3,q4,q5⟩:=q
   refine⟨cc,o,V,?_,q2,q3,q4,q5⟩
   show(gk env (di scope).reverse).lookup y=_
   rw[gM (List.mem_reverse.mpr hy)]
   unfold cellAt
   rw[q1];rfl
 ·obtain⟨k0,h1,h2,h3⟩:=iI hy
  rcases h2 with h2|⟨_,_,h2⟩
  ·subst h2
   have hm:y∈di scope:=by
    have: ∀names:List (Str×NameKind),names.lookup y=some .free→y∈(names.filter fun p=>p.2== .free).map (·.1):=by
     intro names
     induction names with
     |nil=>exact nofun
     |cons p r ih=>
      obtain⟨z,kd⟩:=p
      intro h
      rw[List.lookup_cons]at h
      cases e:y==z with
      |true=>
       rw[e]at h
       cases h
       exact List.mem_map.mpr ⟨(z,.free),List.mem_filter.mpr ⟨.head _,rfl⟩,(beq_iff_eq.mp e).symm⟩
      |false=>
       rw[e]at h
       obtain⟨p,hp,e3⟩:=List.mem_map.mp (ih h)
       exact List.mem_map.mpr ⟨p,List.mem_filter.mpr ⟨.tail _ (List.mem_filter.mp hp).1,(List.mem_filter.mp hp).2⟩,e3⟩
    exact this _ h1
   exact h3 ⟨rfl,jf c.caps y hm⟩
  ·cases h2
theorem eU.cells {scope:Scope}{x:Str}{caps:List Nat}(c:eU cx scope x caps){cs:List MV}(hcs:jN loc caps=some cs){N:Nat}(LO:cL base ρ N news cx env m loc): ∀y∈di scope,(env.cells.lookup y).isSome=true:=fun y hy=>by
 obtain⟨hl,hv⟩:=jD c.caps hcs
 obtain⟨i,hi,e⟩:=List.mem_iff_getElem.mp hy
 have hi':i<cs.length:=by rw[hl];exact hi
 obtain⟨j,j1,j2⟩:=hv i y cs[i] (by rw[List.getElem?_eq_getElem hi,e]) (List.getElem?_eq_getElem hi')
 have q:=LO.at_ j y _ j1 j2
 unfold bW at q
 rw[jf c.caps y hy]at q
 obtain⟨cc,o,V,q1,q2⟩:=q
 rw[q1];rfl
noncomputable def kJ(n:Nat)(cx:Cx)(ifs:List Expr)(cond:IE):Prop:=(ifs=[]∧cond= .c (.bool true))∨ ∃c,ifs=[c]∧bB n cx c cond=true
theorem me(T:ST pw w base fns n k){ifs:List Expr}{cond:IE}(hc:kJ k cx ifs cond){b:Bool}(e:bo (ao fns n) false cond loc H=some (.bool b,H')){Q:Bool→Shared→Prop}
  (h:Here pw w base n A s h₀ L m news ρ H cx env loc)(P:fo pw w base h₀ L m ρ news H s b H' Q):
  wpAny (model pw w) A (forIn ifs true fun c r=>if r=true then do let ok←isTrue c env (eval c env);pure (ForInStep.yield ok)else pure (ForInStep.yield r)) Q E s:=by
 rcases hc with⟨e1,e2⟩|⟨c,e1,hc⟩
 ·rw[e2]at e
  obtain⟨e3,e4⟩:=cp e
  rw[←MV.bool.inj e3,←e4]at P
  rw[e1]
  exact wpAny_tests_nil (P ρ news s.heap s.toks h.R .refl)
 ·rw[e1];exact wpAny_tests_one (eu (T hc e h P))
theorem ny{test elt:MV→HH→Option (MV×HH)}{src:MV}{acc kk i:Nat}{H2:HH}(e:compLoop test elt src acc (kk+1) i H=some H2):(itemAt H src i=some none∧H=H2)∨dk fun x H3=>itemAt H src i=some (some x)∧
  ((jM fun u H4 r H5=>cC (test x H=some (.bool true,H3)) (elt x H3=some (u,H4)) (dm false 0 acc [u] H4=some (r,H5)) (compLoop test elt src acc kk (i+1) H5=some H2))∨(test x H=some (.bool false,H3)∧compLoop test elt src acc kk (i+1) H3=some H2)):=by
 rcases kB e with⟨q,e⟩|⟨x,q,e⟩
 ·exact .inl ⟨q,Option.some.inj e⟩
 ·rcases dc e with⟨H3,q2,e⟩|⟨H3,q2,e⟩
  ·obtain⟨u,H4,q3,e⟩:=aD e
   obtain⟨r,H5,q4,e⟩:=aD e
   exact .inr ⟨x,H3,q,.inl ⟨u,H4,r,H5,q2,q3,q4,e⟩⟩
  ·exact .inr ⟨x,H3,q,.inr ⟨q2,e⟩⟩
theorem yV{n N:Nat}{V:Value}{news':Led}(h:aY base ρ N news (.ref n) V):aY base ρ N news' (.ref n) V:=by
 rw[h.refInv.1];exact .ref n h.refInv.2
inductive CL(w:World)(base h₀:Heap)(m:Str→Option Value)(ρ:Nat→Addr)(N:Nat)(news:Led)(f g:MV→HH→Option (MV×HH))(src:MV)(V:Value)(C Ia D L:Addr)(H2:HH)(s:Shared)(kk:Nat)(s':Shared):Prop
 |mk (i:Nat)(H':HH)(h':Heap)(tk:Nat)(m':Str→Option Value)(news':Led)(ρ':Nat→Addr)(oI oL:Obj)(hs:s'={s with heap:=h',toks:=tk})(hc:compLoop f g src N kk i H'=some H2)(hR:Rel pw w base h₀ C h' m' news' ρ' H')(hx:eL (· =Ia) ρ N news ρ' H'.length news')(h1:(Ia,oI)∈news')(h2:cK ρ' H'.length Ia)(h3:cA src V i oI)(h4:(L,oL)∈news')(h5:cK ρ' H'.length L)(h6:LCg.NsObj oL m)(h7:aY base ρ' H'.length news' (.ref N) (.ref D))
theorem tn(I:SE pw w base fns n k)(T:ST pw w base fns n k){el cond:IE}{elt iter:Expr}{ifs:List Expr}{x:Str}{caps:List Nat}{cs:List MV}{scope:Scope}{px pos:Pos}{src:MV}{V:Value}{C Ia D:Addr}{H2:HH}{R:Result→Shared→Prop}
  (ck:eU cx scope x caps)(hcs:jN loc caps=some cs)(hel:bB k (gG cx scope x) elt el=true)(hif:kJ k (gG cx scope x) ifs cond)
  (hA:BH A n)(st:bG base h₀)(EO:dJ cx L env)(LO:cL base ρ H.length news cx env m loc)(hV:aY base ρ H.length news src V)(hIn: ∀p∈news,p.1=Ia→fU p.2)(hCL:C≠L)(hLI:L≠Ia)(hCn: ∀p∈news,p.1≠C)(hLn: ∀p∈news,p.1≠L)(hL0:h₀.objs.size≤L)
  (fin: ∀ρ' news' h' tk m',Rel pw w base h₀ L h' m news' ρ' H2→eL (· =Ia) ρ H.length news ρ' H2.length news'→aY base ρ' H2.length news' (.ref H.length) (.ref D)→h'.Ns C m'→(∀p∈news',p.1≠C)→R (.ok .next) {s with heap:=h',toks:=tk})
  (kk:Nat)(s':Shared)(h:CL w base h₀ m ρ H.length news (fun x h=>bo (ao fns n) false cond (x::cs) h) (fun x h=>bo (ao fns n) false el (x::cs) h) src V C Ia D L H2 s kk s'):
  codeAny (model pw w) A (.compLoop (.ListComp elt [⟨.Name x px,iter,ifs,0⟩] scope pos) 0 (.ref Ia) (.ref D) (md scope C env)) R s':=by
 refine codeAny_compLoop_tests (fun kk s'=>CL w base h₀ m ρ H.length news (fun x h=>bo (ao fns n) false cond (x::cs) h) (fun x h=>bo (ao fns n) false el (x::cs) h) src V C Ia D L H2 s kk s') ?_ kk h
 clear h
 rintro kk s' ⟨i,H1,h1,tk1,m1,news1,ρ1,oI,oL,rfl,e,R1,x1,hmI,hfI,hit,hmL,hfL,hnL,hacc⟩
 cases kk with
 |zero=>exact aV e
 |succ kk=>
  have hV1:aY base ρ1 H1.length news1 src V:=hV.mono0 (x1.to0 hIn)
  rcases ny e with⟨hi,e⟩|⟨xv,H3,hi,e⟩
  ·rw[e]at R1 x1 hacc hfI hfL hi hV1
   refine qx hi hA.hd R1 hV1 hmI hit fun h' hk=> ?_
   dsimp only
   obtain⟨R2,x2⟩:=R1.drop hmI hfI hit.inert
   have hI0:=(R1.N _ hmI).2.2
   have hCI:C≠Ia:=Ne.symm (R1.N _ hmI).2.1
   have R3:=R2.but (h':=h') (fun p hp=>(cF.mp hp).2) hCI hI0 fun b o hb e=>hk b o hb e
   have hmL':(L,oL)∈cut news1 Ia:=cF.mpr ⟨hmL,hLI⟩
   obtain⟨oC,hnC,hfC,R4,x4⟩:=R3.reframe hmL' hfL hnL hL0
   have hNC:h'.Ns C m1:=R3.F.ns
   obtain⟨R5,x5⟩:=R4.drop (.head _) hfC (gj hnC)
   refine fin _ _ h' tk1 m1 R5 ?_ ?_ hNC ?_
   ·refine⟨x1.le,x1.same,fun p hp hb hf=> ?_⟩
    obtain⟨q1,q2⟩:=x1.keep p hp hb hf
    have q3:=hCn p hp
    have q4:=hLn p hp
    exact⟨cF.mpr ⟨.tail _ (cF.mpr ⟨cF.mpr ⟨q1,hb⟩,q4⟩),q3⟩,q2⟩
   ·exact yV hacc
   ·intro p hp
    exact(cF.mp hp).2
  ·refine nv hi R1 hV1 hmI hit fun X h2 o2 tk2 hX hit2 hs2 hg2=> ?_
   dsimp only
   obtain⟨R2,x2⟩:=R1.swap hmI hfI hit.inert hs2 hg2
   have hin1: ∀p∈news1,p.1=Ia→fU p.2:=fun p hp hb=>by
    have:=gf R1.nd hmI hp hb.symm
    rw[←this];exact hit.inert
   have hX2:=hX.mono0 (x2.to0 hin1)
   have hacc2:=hacc.mono0 (x2.to0 hin1)
   have hmI2:(Ia,o2)∈cW news1 Ia o2:=cD hmI
   obtain⟨hmL2,hfL2⟩:=x2.keep _ hmL hLI hfL
   have EO':=ck.envOk EO C
   have hxk:(md scope C env).kindOf x=some .local:=lookup_relabel_local ck.loc
   refine wpAny_assign_Name (wpAny_storeName_local hxk R2.F.ns (fun h3 hn3 hs3=> ?_) (by rw[EO'.kind];rfl))
   have R3:=R2.store hn3 hs3
   have x3:=x1.trans x2
   have LO3:=ck.locs (C:=C) hcs (LO.monoB x3 hIn) hX2 (m₂:=fun y=>if y=x then some X else m1 y) (by simp)
   have h3':Here pw w base n A {s with heap:=h3,toks:=tk2+1} h₀ C _ _ ρ1 H1 (gG cx scope x) (md scope C env) (xv::cs):=⟨hA,st,EO',R3,LO3⟩
   rcases e with⟨u,H4,r,H5,e3,e4,e5,e⟩|⟨e3,e⟩
   ·refine me T hif e3 h3' fun ρ4 news4 h4 tk4 R4 x4=> ?_
    simp only[if_true]
    refine eu (I hel e4 (h3'.next R4 x4 tk4) fun ρ5 news5 U h5 tk5 R5 x5 hU=> ?_)
    have x45:=x4.trans x5
    have hacc5:=hacc2.mono x45
    rw[Value.ref.inj hacc5.refInv.1]
    refine eu (vp e5 hA.gd R5 (.cons hU .nil) fun ρ6 news6 U6 h6 tk6 R6 x6 _=> ?_)
    have x46:=x45.trans x6
    obtain⟨z1,z2⟩:=x46.keep _ hmI2 hfI
    obtain⟨z3,z4⟩:=x46.keep _ hmL2 hfL2
    rw[←Value.ref.inj hacc5.refInv.1]
    exact⟨kk,Nat.lt_succ_self _,i+1,H5,h6,tk6,_,news6,ρ6,o2,oL,rfl,e,R6,x3.trans x46.toB,z1,z2,hit2,z3,z4,hnL,hacc2.mono x46⟩
   ·refine me T hif e3 h3' fun ρ4 news4 h4 tk4 R4 x4=> ?_
    simp only[Bool.false_eq_true,if_false]
    obtain⟨z1,z2⟩:=x4.keep _ hmI2 hfI
    obtain⟨z3,z4⟩:=x4.keep _ hmL2 hfL2
    exact⟨kk,Nat.lt_succ_self _,i+1,H3,h4,tk4,_,news4,ρ4,o2,oL,rfl,e,R4,x3.trans x4.toB,z1,z2,hit2,z3,z4,hnL,hacc2.mono x4⟩
theorem kK(I:SE pw w base fns n k)(T:ST pw w base fns n k){el cond:IE}{elt iter:Expr}{ifs:List Expr}{x:Str}{caps:List Nat}{cs:List MV}{scope:Scope}{px pos:Pos}{src:MV}{V:Value}{H2:HH}{RR:Value→Addr→Result→Shared→Prop}{it0:Option MV}
  (ck:eU cx scope x caps)(hcs:jN loc caps=some cs)(hel:bB k (gG cx scope x) elt el=true)(hif:kJ k (gG cx scope x) ifs cond)
  (h:Here pw w base n A s h₀ L m news ρ H cx env loc)(hV:aY base ρ H.length news src V)(e0:itemAt H src 0=some it0)
  (e:compLoop (fun x h=>bo (ao fns n) false cond (x::cs) h) (fun x h=>bo (ao fns n) false el (x::cs) h) src H.length 200 0 (H++[.list []])=some H2)
  (fin: ∀ρ' news' h' tk m' C D,Rel pw w base h₀ L h' m news' ρ' H2→Ext ρ H.length news ρ' H2.length news'→aY base ρ' H2.length news' (.ref H.length) (.ref D)→h'.Ns C m'→(∀p∈news',p.1≠C)→C≠L→h₀.get? C=none→RR (.ref D) C (.ok .next) {s with heap:=h',toks:=tk}):
  wpAny (model pw w) A (pyIter V) (fun it s₂=>wpAny (model pw w) A (newList []) (fun acc s₃=>wpAny (model pw w) A (newFunctionEnv scope env.globals (gk env (di scope).reverse) [] env.qual none .none (some env)) (fun cenv s₄=>
   codeAny (model pw w) A (.compStart (.ListComp elt [⟨.Name x px,iter,ifs,0⟩] scope pos) 0 it acc {cenv with scope:=relabel scope env}) (RR acc cenv.locals) s₄) E s₃) E s₂) E s:=by
 refine kH e0 h.R hV fun oI hit hfreed=> ?_
 have NI:News h₀ L (s.heap.push oI) ((s.heap.objs.size,oI)::news):=h.R.N.push h.R.F oI hfreed
 obtain⟨R1,x1,f1⟩:=h.R.loose (h.R.F.push oI) NI (d7 h.R.N)
 have hIL:s.heap.objs.size≠L:=(NI _ (.head _)).2.1
 have hInews: ∀p∈news,p.1≠s.heap.objs.size:=fun p hp=>Nat.ne_of_lt (Heap.lt_size (h.R.N p hp).1)
 have hsz1:(s.heap.push oI).objs.size=s.heap.objs.size+1:=Heap.size_push ..
 refine wpAny_newObj_type ?_
 have ND:News h₀ L ((s.heap.push oI).push (listOf #[] 0)) (((s.heap.push oI).objs.size,listOf #[] 0)::(s.heap.objs.size,oI)::news):=R1.N.push R1.F _
 obtain⟨R2,x2⟩:=R1.alloc (c:= .list []) (R1.F.push _) ND (d7 R1.N) (.list 0 .nil)
 have hHl:(H++[MO.list []]).length=H.length+1:=by simp
 have hD:aY base (upd ρ H.length (s.heap.push oI).objs.size) (H++[MO.list []]).length (((s.heap.push oI).objs.size,listOf #[] 0)::(s.heap.objs.size,oI)::news) (.ref H.length) (.ref (s.heap.push oI).objs.size):=by
  have q:=aY.ref (base:=base) (ρ:=upd ρ H.length (s.heap.push oI).objs.size) (N:=(H++[MO.list []]).length) (news:=((s.heap.push oI).objs.size,listOf #[] 0)::(s.heap.objs.size,oI)::news) H.length (by simp)
  rwa[bV]at q
 dsimp only
 have hcell: ∀y∈scope.names,y.2≠ .cell:=fun y hy z=>by rcases ck.all y hy with q|q|q<;>rw[q]at z<;>cases z
 refine wpAny_newFunctionEnv hcell (by intro y hy;cases hy) (fun h1 hn1 hs1=> ?_) ck.kind
 dsimp only at hn1 hs1⊢
 obtain⟨oC,hgC,hnC⟩:=LCg.ns_obj hn1
 generalize hC:((s.heap.push oI).push (listOf #[] 0)).objs.size=C at*
 have hCsz:C=s.heap.objs.size+2:=by rw[←hC,Heap.size_push,hsz1]
 have kp: ∀b o,((s.heap.push oI).push (listOf #[] 0)).get? b=some o→h1.get? b=some o:=fun b o z=>hs1.extBut b o (fun q=>by have:=Heap.lt_size z;rw[q,hC]at this;exact Nat.lt_irrefl _ this) (Heap.get?_push_of_some _ z)
 have R3:=R2.keeps kp
 have hfr:C∉(((s.heap.push oI).objs.size,listOf #[] 0)::(s.heap.objs.size,oI)::news).map (·.1):=by have:=d7 R2.N;rwa[hC]at this
 have hC0:h₀.get? C=none:=by have:=next_is_new R2.F;rwa[hC]at this
 have hCle:h₀.objs.size≤C:=by
  have h1:=R2.F.above
  have h2:=R2.F.ns.lt
  rw[hC]at h2
  exact Nat.le_of_lt (Nat.lt_of_le_of_lt h1 h2)
 have hCL:C≠L:=fun q=>by have h2:=R2.F.ns.lt;rw[hC,q]at h2;exact Nat.lt_irrefl _ h2
 have N4:News h₀ L h1 ((C,oC)::((s.heap.push oI).objs.size,listOf #[] 0)::(s.heap.objs.size,oI)::news):=fun p hp=>by
  rcases List.mem_cons.mp hp with rfl|hp
  ·exact⟨hgC,hCL,hC0⟩
  ·exact R3.N p hp
 obtain⟨R4,x4,f4⟩:=R3.loose R3.F N4 hfr
 obtain⟨oL,hnL,hfL,R5,x5⟩:=R4.reframe (.head _) f4 hnC hCle
 have hLI:L≠s.heap.objs.size:=Ne.symm hIL
 have xx:eL (· =s.heap.objs.size) ρ H.length news (upd ρ H.length (s.heap.push oI).objs.size) (H++[MO.list []]).length ((L,oL)::cut ((C,oC)::((s.heap.push oI).objs.size,listOf #[] 0)::(s.heap.objs.size,oI)::news) C):=by
  have xa:=(x1.trans x2).trans x4
  refine⟨xa.le,xa.same,fun p hp hb hf=> ?_⟩
  obtain⟨q1,q2⟩:=xa.keep p hp hf
  exact x5.keep p q1 (fun z=>by have h2:=Heap.lt_size (h.R.N p hp).1;rw[z,hCsz]at h2;exact absurd h2 (Nat.not_lt.mpr (Nat.le_add_right _ 2))) q2
 have hmI1:(s.heap.objs.size,oI)∈((C,oC)::((s.heap.push oI).objs.size,listOf #[] 0)::(s.heap.objs.size,oI)::news):= .tail _ (.tail _ (.head _))
 have fI2:cK (upd ρ H.length (s.heap.push oI).objs.size) (H++[MO.list []]).length s.heap.objs.size:=(x2.keep _ (.head _) f1).2
 have hmI5:=x5.keep _ hmI1 (fun z=>by have z:s.heap.objs.size=C:=z;rw[hCsz]at z;exact absurd z (Nat.ne_of_lt (Nat.lt_add_of_pos_right (by decide)))) fI2
 have hacc:aY base (upd ρ H.length (s.heap.push oI).objs.size) (H++[MO.list []]).length ((L,oL)::cut ((C,oC)::((s.heap.push oI).objs.size,listOf #[] 0)::(s.heap.objs.size,oI)::news) C) (.ref H.length) (.ref (s.heap.push oI).objs.size):=by
  generalize hDD:(s.heap.push oI).objs.size=D at hD⊢
  obtain⟨q1,q2⟩:=G4 (by simpa using hD:aY base (upd ρ H.length D) (H++[MO.list []]).length _ (.ref H.length) (.ref D))
  have q:=aY.ref (base:=base) (ρ:=upd ρ H.length D) (N:=(H++[MO.list []]).length) (news:=(L,oL)::cut ((C,oC)::(D,listOf #[] 0)::(s.heap.objs.size,oI)::news) C) H.length q2
  rwa[bV]at q
 have loop: ∀s₃:Shared,s₃={s with heap:=h1,toks:=s.toks+([]:List (Str×Value)).length}→
   codeAny (model pw w) A (.compLoop (.ListComp elt [⟨.Name x px,iter,ifs,0⟩] scope pos) 0 (.ref s.heap.objs.size) (.ref (s.heap.push oI).objs.size) (md scope C env)) (RR (.ref (s.heap.push oI).objs.size) C) s₃:=by
  rintro s₃ rfl
  refine tn (s:=s) I T ck hcs hel hif h.A h.st h.EO h.LO hV (fun p hp z=>absurd z (hInews p hp)) hCL hLI (fun p hp z=> ?_) (fun p hp=>(h.R.N p hp).2.1) h.R.F.above ?_ 200 _
   ⟨0,_,h1,_,_,_,_,oI,oL,rfl,e,R5,xx,hmI5.1,hmI5.2,hit,.head _,hfL,hnL,hacc⟩
  ·have:=Heap.lt_size (h.R.N p hp).1;rw[z,hCsz]at this;exact absurd this (Nat.not_lt.mpr (Nat.le_add_right _ 2))
  ·intro ρ' news' h' tk m' R' x' hv hn hc
   exact fin ρ' news' h' tk m' C _ R' (x'.ext hInews) hv hn hc hCL hC0
 refine codeAny_compStart_list (loop _ rfl) (yU (i:=0) (src:=src) (V:=V) (R4.N _ hmI1).1 hit (loop _ rfl))
theorem jE{H:HH}{test elt:MV→HH→Option (MV×HH)}{src:MV}{acc:Nat}{kk i:Nat}{H2:HH}(h:compLoop test elt src acc kk i H=some H2): ∃r,itemAt H src i=some r:=by
 cases kk with
 |zero=>exact aV h
 |succ kk=>
  rcases kB h with⟨q,_⟩|⟨x,q,_⟩
  ·exact⟨_,q⟩
  ·exact⟨_,q⟩
theorem jF{H:HH}{c:MO}{src:MV}{V:Value}{r:Option MV}(hV:aY base ρ H.length news src V)(h:itemAt (H++[c]) src 0=some r):itemAt H src 0=some r:=by
 cases src with
 |ref a=>
  obtain⟨_,hl⟩:=hV.refInv
  unfold itemAt at h⊢
  dsimp only at h⊢
  rwa[List.getElem?_append_left hl]at h
 |_=>exact h
theorem gm{names:List (Str×NameKind)}{y:Str×NameKind}(nd:(names.map (·.1)).Nodup)(hm:y∈names):names.lookup y.1=some y.2:=by
 induction names with
 |nil=>cases hm
 |cons p r ih=>
  obtain⟨n1,n2⟩:=List.nodup_cons.mp nd
  rw[List.lookup_cons]
  rcases List.mem_cons.mp hm with rfl|hm
  ·rw[beq_self_eq_true]
  ·have:(y.1==p.1)=false:=beq_eq_false_iff_ne.mpr fun z=>n1 (List.mem_map.mpr ⟨y,hm,z⟩)
   rw[this];exact ih n2 hm
theorem BV(I:SE pw w base fns n k)(T:ST pw w base fns n k){el cond sr:IE}{elt iter:Expr}{ifs:List Expr}{x:Str}{caps:List Nat}{scope:Scope}{px pos:Pos}
 (ck:eU cx scope x caps)(hsr:bB k cx iter sr=true)(hel:bB k (gG cx scope x) elt el=true)(hif:kJ k (gG cx scope x) ifs cond)(hs: ∀(env:Env) x,foldedSetIterable iter env x=pure x):gI pw w base fns n cx (.ListComp elt [⟨.Name x px,iter,ifs,0⟩] scope pos) (.comp el sr cond caps):=by
 intro fl loc H v H' e env A s h₀ L m news ρ Q h P
 obtain⟨V,H1,e1,e⟩:=aD e
 obtain⟨cs,hcs,e⟩:=Option.bind_eq_some_iff.mp e
 obtain⟨H2,e2,e⟩:=Option.map_eq_some_iff.mp e
 replace P:=P.at (congrArg some e)
 refine aL ?_
 rw[eval_ListComp]
 have hnames: ∀y∈scope.names,y.2= .local→scope.names.lookup y.1=some .local:=fun y hy q=>by rw[gm ck.nnd hy,q]
 refine wpAny_comprehension_free (use:=none) rfl (hs env) (kI (ck.cells hcs h.LO)) ck.kind hnames (eu (I hsr e1 h fun ρ1 news1 X h1 tk1 R1 x1 hX=> ?_))
 obtain⟨it0,e0⟩:=jE e2
 refine wpAny_mono (kK (RR:=compPost (model pw w) A (fun _ _=>False) none Q) (E:=fun _ _=>False) I T ck hcs hel hif (h.next R1 x1 tk1) hX (jF hX e0) e2 fun ρ2 news2 h2 tk2 m2 C D R2 x2 hv hn hc hCL hC0=> ?_) (fun _ _ z=>z) fun _ _ z=>z
 refine⟨m2,hn,fun h'' hs''=> ?_⟩
 have R3:=R2.but (h':=h'') hc (Ne.symm hCL) hC0 fun b o hb z=>hs''.extBut b o hb z
 exact P _ _ _ _ _ R3 (x1.trans x2) hv
end
theorem g5 {k:Nat}{cx:Cx}{e:Expr}{ie:IE}{env:Env}(h:bB k cx e ie=true): ∀x,foldedSetIterable e env x=pure x:=fun x=>by
 cases k with
 |zero=>exact bF h
 |succ k=>
  cases e with
  |Set=>exact bF h
  |_=>rfl
theorem iJ{o:Option NameKind}(h:(match o with|some .local=>true|_=>false)=true):o=some .local:=by
 cases o with
 |none=>exact bF h
 |some kd=>
  cases kd with
  | «local» =>rfl
  |_=>exact bF h
theorem mf{cx:Cx}{scope:Scope}{x:Str}{caps:List Nat}(h:p9 cx scope x caps=true):eU cx scope x caps:=by
 obtain⟨h,c6⟩:=dI h
 obtain⟨h,c5⟩:=dI h
 obtain⟨h,c4⟩:=dI h
 obtain⟨h,c3⟩:=dI h
 obtain⟨c1,c2⟩:=dI h
 refine⟨de c1,iJ c2,beq_iff_eq.mp c3,fun p hp=> ?_,de c5,c6⟩
 have:=List.all_eq_true.mp c4 p hp
 rcases Bool.or_eq_true_iff.mp this with h|h
 ·rcases Bool.or_eq_true_iff.mp h with h|h
  ·exact .inl (beq_iff_eq.mp h)
  ·exact .inr (.inl (beq_iff_eq.mp h))
 ·exact .inr (.inr (beq_iff_eq.mp h))
section
variable{w:World}{K:Frag}{base:Heap}{n k:Nat}
theorem yW{A:Around}{s:Shared}{h₀:Heap}{L:Addr}{m:Str→Option Value}{news:Led}{ρ:Nat→Addr}{H H':HH}{cx:Cx}{env:Env}{loc:Loc}{fl:Bool}{b:Bool}{Q:Bool→Shared→Prop}
  (I:SE pw w base fns n k){e:Expr}{ie:IE}(c:bB k cx e ie=true)(ev:bo (ao fns n) fl ie loc H=some (.bool b,H'))
  (h:Here pw w base n A s h₀ L m news ρ H cx env loc)(P:fo pw w base h₀ L m ρ news H s b H' Q)
  (hp:isTrue e env (eval e env)=(do let v←eval e env;standAt e.pos;holding [v] (truthy v))):wpP fl (model pw w) A (isTrue e env (eval e env)) Q s:=by
 rw[hp]
 refine aj (I c ev h fun ρ1 news1 X h1 tk1 R1 x1 hX=> ?_)
 rw[hX.boolInv]
 exact aj (aG (aE (aL (wpAny_truthy_bool (P _ _ _ _ R1 x1)))))
theorem sE(B:Bs base fns)(C:eH pw w base fns n)(ih: ∀j,j≤k→SE pw w base fns n j)(T:ST pw w base fns n k)(J:SL pw w base fns n k)(Jb:SB pw w base fns n k)(O:SO pw w base fns n k):SE pw w base fns n (k+1):=by
 intro cx e ie c
 have I:SE pw w base fns n k:=ih k (Nat.le_refl _)
 have cq:=nj c
 clear c
 cases cq with
 |c c=>
  intro fl loc H v H' ev env A s h₀ L m news ρ Q h P
  obtain⟨e1,e2⟩:=cp ev
  rw[←e1,←e2]at P
  exact aL (yO c h.R P)
 |l c=>
  intro fl loc H v H' ev env A s h₀ L m news ρ Q h P
  obtain⟨u,e1,e2⟩:=Option.map_eq_some_iff.mp ev
  exact aL (yN c e1 h.EO h.R h.LO (P.at (congrArg some e2)))
 |g c=>
  intro fl loc H v H' ev env A s h₀ L m news ρ Q h P
  obtain⟨e1,e2⟩:=cp ev
  rw[←e1,←e2]at P
  exact aL (iF B h.st c h.EO h.R fun V hV=>P.id h.R hV)
 |bop c=>intro fl loc H v H' ev env A s h₀ L m news ρ Q h P;exact Jb c ev _ h P
 |bin o c1 c2=>exact Ek I o c1 c2
 |not c=>exact En I c
 |usub c=>exact BL I c
 |ife c0 c1 c2=>exact Ep I T c0 c1 c2
 |dsp c0 c1 c2 c3 c4=>exact EF (fun j hj=>ih j (Nat.le_of_lt hj)) c0 c1 c2 c3 c4
 |lst c=>exact Ex J c
 |tup c=>intro fl loc H v H' ev env A s h₀ L m news ρ Q h P;exact Ew J c ev h P
 |cmp o c1 c2 c3=>intro fl loc H v H' ev env A s h₀ L m news ρ Q h P;exact El I B o c1 c2 c3 ev h P
 |meth hj c0 c1 hl hf hn=>exact BQ I J C B hj hn hl hf c0 c1
 |call c0 c1=>exact BO J C B c0 c1
 |new c0 c1=>exact Ey J C B c0 c1
 |bi c0 c1=>exact G8 J B c0 c1
 |attr hj c1 hn=>exact BM I C B hj hn c1
 |slc c0 c1 c2=>exact Et I O c0 c1 c2
 |sub hs c1 c2=>exact Es I hs c1 c2
 |tab c=>exact EC B c
 |comp c0 c1 c2 c3=>exact BV I T (mf c0) c1 c2 c3 fun _=>g5 c1
theorem sT(B:Bs base fns)(T:ST pw w base fns n k)(I:SE pw w base fns n k)(I1:SE pw w base fns n (k+1))(Jb:De pw w base fns n k):ST pw w base fns n (k+1):=by
 intro cx e ie c fl loc H v H' ev env A s h₀ L m news ρ Q h P
 have plain:=fun hp=>yW I1 c ev h P hp
 have cq:=nj c
 clear c
 cases cq with
 |bop c=>exact Jb c ev h P
 |not c=>exact Eo T c ev h P _
 |ife c0 c1 c2=>exact Er T c0 c1 c2 ev h P _
 |cmp o c1 c2 c3=>exact Em I B o c1 c2 c3 ev h P _
 |_=>exact plain rfl
theorem sL(I:SE pw w base fns n k)(J:SL pw w base fns n k):SL pw w base fns n (k+1):=by
 intro cx es ies c fl loc H vs H' ev env A s h₀ L m news ρ Q pos h P
 rcases gh c with⟨e1,e2⟩|⟨x,r,a,q,e1,e2,c1,c2⟩
 ·rw[e2]at ev;exact Eu e1 ev pos h P
 ·rw[e2]at ev;rw[e1];exact BN I J c1 c2 ev pos h P
theorem rM{cx:Cx}{op:BoolOp}{es:List Expr}{ie:IE}(h:sG (k+1) cx op es ie=true):(∃e,es=[e]∧bB k cx e ie=true)∨(zZ fun e y r a b=>nV (op= .And) (es=e::y::r) (ie= .and a b) (bB k cx e a=true) (sG k cx .And (y::r) b=true))∨
  zZ fun e y r a b=>nV (op= .Or) (es=e::y::r) (ie= .or a b) (bB k cx e a=true) (sG k cx .Or (y::r) b=true):=by
 cases es with
 |nil=>exact bF h
 |cons e r=>
  cases r with
  |nil=>exact .inl ⟨e,rfl,h⟩
  |cons y r=>
   cases op with
   |And=>have⟨h0,h1,h2⟩:=jO h;exact .inr (.inl ⟨e,y,r,ce.e1 ie,ce.e2 ie,rfl,rfl,ce.tg_is h0,h1,h2⟩)
   |Or=>have⟨h0,h1,h2⟩:=jO h;exact .inr (.inr ⟨e,y,r,ce.e1 ie,ce.e2 ie,rfl,rfl,ce.tg_is h0,h1,h2⟩)
theorem sB(I:SE pw w base fns n k)(J:SB pw w base fns n k):SB pw w base fns n (k+1):=by
 intro cx op es ie c fl loc H v H' ev env A s h₀ L m news ρ Q pos h P
 rcases rM c with⟨e,e1,c⟩|⟨e,y,r,a,b,e0,e1,e2,c1,c2⟩|⟨e,y,r,a,b,e0,e1,e2,c1,c2⟩
 ·rw[e1];exact Ez I c ev pos h P
 ·rw[e2]at ev;rw[e0,e1];exact EA I J c1 c2 ev pos h P
 ·rw[e2]at ev;rw[e0,e1];exact G9 I J c1 c2 ev pos h P
theorem Iq(I:ST pw w base fns n k)(J:De pw w base fns n k):De pw w base fns n (k+1):=by
 intro cx op es ie c fl loc H v H' ev env A s h₀ L m news ρ Q h P
 rcases rM c with⟨e,e1,c⟩|⟨e,y,r,a,b,e0,e1,e2,c1,c2⟩|⟨e,y,r,a,b,e0,e1,e2,c1,c2⟩
 ·rw[e1];exact BR I c ev h P
 ·rw[e2]at ev;rw[e0,e1];exact BS I J c1 c2 ev h P
 ·rw[e2]at ev;rw[e0,e1];exact EB I J c1 c2 ev h P
theorem sO(I:SE pw w base fns n k):SO pw w base fns n (k+1):=by
 intro cx e ie c fl loc H v H' ev env A s h₀ L m news ρ Q h P
 cases e with
 |some e=>exact I c ev h P
 |none=>
  rw[kz c]at ev
  obtain⟨e1,e2⟩:=cp ev
  rw[←e1,←e2]at P
  exact ay (P.id h.R .none)
theorem iK(B:Bs base fns)(C:eH pw w base fns n): ∀k,(∀j,j≤k→SE pw w base fns n j)∧ST pw w base fns n k∧SL pw w base fns n k∧SB pw w base fns n k∧De pw w base fns n k∧SO pw w base fns n k
 |0=>by
  refine⟨fun j hj=> ?_,?_,?_,?_,?_,?_⟩
  ·rw[Nat.le_zero.mp hj]
   intro cx e ie c;exact bF c
  ·intro cx e ie c;exact bF c
  ·intro cx e ie c;exact bF c
  ·intro cx e _ ie c;exact bF c
  ·intro cx e _ ie c;exact bF c
  ·intro cx e ie c;exact bF c
 |k+1=>by
  obtain⟨ih,T,J,Jb,Jt,O⟩:=iK B C k
  have I:SE pw w base fns n k:=ih k (Nat.le_refl _)
  have I1:SE pw w base fns n (k+1):=sE B C ih T J Jb O
  refine⟨fun j hj=> ?_,sT B T I I1 Jt,sL I J,sB I Jb,Iq T Jt,sO I⟩
  rcases Nat.lt_or_eq_of_le hj with hj|rfl
  ·exact ih j (Nat.le_of_lt_succ hj)
  ·exact I1
end
section
variable{w:World}{base:Heap}{h₀:Heap}{L:Addr}{m:Str→Option Value}{ρ:Nat→Addr}{H:HH}{A:Around}{E:Value→Shared→Prop}
theorem gn{h:Heap}{news:Led}{I:Addr}{o:Obj}(R:Rel pw w base h₀ L h m news ρ H)(hm:(I,o)∈news)(hi:fU o): ∀p∈news,p.1=I→fU p.2:=fun p hp hb=>by
 have:=gf R.nd hm hp hb.symm
 rw[←this];exact hi
theorem oR{src:MV}{V:Value}{I:Addr}: ∀(xs:List MV)(i:Nat)(s:Shared)(news:Led)(o:Obj)(Q:List Value→Shared→Prop),Rel pw w base h₀ L s.heap m news ρ H→aY base ρ H.length news src V→(I,o)∈news→cK ρ H.length I→cA src V i o→
  (∀j x,xs[j]? =some x→itemAt H src (i+j)=some (some x))→
  (∀news' Vs o' h' tk,Rel pw w base h₀ L h' m news' ρ H→eL (· =I) ρ H.length news ρ H.length news'→(I,o')∈news'→cA src V (i+xs.length) o'→br base ρ H.length news' xs Vs→Q Vs {s with heap:=h',toks:=tk})→
  wpAny (model pw w) A (draw (.ref I) xs.length) Q E s
 |[],i,s,news,o,Q,R,hv,hm,hf,hit,_,hQ=>wpAny_pure (hQ news [] o s.heap s.toks R .refl hm hit .nil)
 |x::xs,i,s,news,o,Q,R,hv,hm,hf,hit,hx,hQ=>by
  show wpAny _ _ (pyNext (.ref I)>>=_) Q E s
  refine wpAny_bind (nv (hx 0 x rfl) R hv hm hit fun X h1 o1 tk1 hX hit1 hs1 hg1=> ?_)
  obtain⟨R1,x1⟩:=R.swap hm hf hit.inert hs1 hg1
  have hin:=gn R hm hit.inert
  have hm1:(I,o1)∈cW news I o1:=cD hm
  refine wpAny_bind (wpAny_holding (oR xs (i+1) _ _ o1 _ R1 (hv.mono0 (x1.to0 hin)) hm1 hf hit1 (fun j y hy=> ?_) fun news2 Vs o2 h2 tk2 R2 x2 hm2 hit2 hV=>wpAny_pure ?_))
  ·have:=hx (j+1) y (by simpa using hy)
   rwa[show i+(j+1)=i+1+j from Nat.add_right_comm i j 1]at this
  ·have hin1:=gn R1 hm1 hit1.inert
   exact hQ news2 (X::Vs) o2 h2 tk2 R2 (x1.trans x2) hm2 (by rwa[List.length_cons,show i+(xs.length+1)=i+1+xs.length from Nat.add_right_comm i xs.length 1]) (.cons ((hX.mono0 (x1.to0 hin)).mono0 (x2.to0 hin1)) hV)
noncomputable def mh(H:HH)(v:MV):Option (List MV):=match v with
 | .tup vs=>some vs
 | .ref n=>listAt H (.ref n)
 |_=>none
theorem mi{v:MV}{xs:List MV}(h:mh H v=some xs):v= .tup xs∨ ∃n,v= .ref n∧H[n]? =some (.list xs):=by
 cases v with
 |tup vs=>exact .inl (congrArg MV.tup (Option.some.inj h))
 |ref n=>exact .inr (gW h)
 |_=>exact aV h
theorem kL{v:MV}{xs:List MV}(h:mh H v=some xs)(j:Nat):itemAt H v j=some xs[j]? :=by
 rcases mi h with e|⟨n,e,q⟩
 ·rw[e];rfl
 ·rw[e];unfold itemAt;dsimp only;rw[q]
theorem qz{s:Shared}{news:Led}{v:MV}{V:Value}{xs:List MV}(h:mh H v=some xs)(R:Rel pw w base h₀ L s.heap m news ρ H)(hv:aY base ρ H.length news v V){Q:Option Value→Shared→Prop}
  (q: ∀f,Q (some f) s):wpAny (model pw w) A (specialOf V "__iter__") Q E s:=by
 rcases mi h with e|⟨n,e,g⟩
 ·rw[e]at hv
  obtain⟨a,Vs,k,e1,hm,_⟩:=hv.tupInv
  rw[e1];exact wpAny_specialOf (bO R.N hm).typeIs F.slot_tuple_iter.lookup (q _)
 ·obtain⟨Vs,k,hm,_⟩:=R.listAt g
  rw[e]at hv
  rw[hv.refInv.1];exact wpAny_specialOf (bZ R.N hm).typeIs slot_list_iter.lookup (q _)
theorem g6 {s:Shared}{news:Led}{v:MV}{V:Value}{xs:List MV}{n:Nat}{Q:List Value→Shared→Prop}(h:mh H v=some xs)(hn:n=xs.length)(hh:A.handled=none)(R:Rel pw w base h₀ L s.heap m news ρ H)(hv:aY base ρ H.length news v V)
  (P:rK pw w base h₀ L m ρ news H s xs H Q):wpAny (model pw w) A (unpackItems V n none) Q E s:=by
 subst hn
 unfold unpackItems
 refine wpAny_bind ?_
 unfold notIterableAtAll
 refine wpAny_bind (qz h R hv fun f=> ?_)
 simp only[Option.isSome_some,if_true]
 refine wpAny_pure ?_
 simp only[Bool.false_eq_true,if_false]
 refine wpAny_bind (wpAny_holding (kH (kL h 0) R hv fun o hit hfr=> ?_))
 have NI:News h₀ L (s.heap.push o) ((s.heap.objs.size,o)::news):=R.N.push R.F o hfr
 obtain⟨R1,x1,f1⟩:=R.loose (R.F.push o) NI (d7 R.N)
 refine wpAny_bind (wpAny_holding (oR xs 0 _ _ o _ R1 (hv.mono x1) (.head _) f1 hit (fun j x hj=>by rw[Nat.zero_add,kL h j,hj]) fun news2 Vs o2 h2 tk2 R2 x2 hm2 hit2 hV=> ?_))
 have hl:=hV.length
 rw[if_neg (by rw[hl];exact Nat.lt_irrefl _)]
 have hv2:=(hv.mono x1).mono0 (x2.to0 (gn R1 (.head _) hit.inert))
 rw[Nat.zero_add]at hit2
 refine wpAny_bind (wpAny_holding (qx (by rw[kL h,List.getElem?_eq_none (Nat.le_refl _)]) hh R2 hv2 hm2 hit2 fun h3 hk3=> ?_))
 simp only[Option.isSome_none,Bool.false_eq_true,if_false]
 refine wpAny_pure ?_
 obtain⟨R3,x3⟩:=R2.drop hm2 f1 hit2.inert
 have hIL:L≠s.heap.objs.size:=Ne.symm (NI _ (.head _)).2.1
 have R4:=R3.but (h':=h3) (fun p hp=>(cF.mp hp).2) hIL (NI _ (.head _)).2.2 hk3
 have hV4:br base ρ H.length (cut news2 s.heap.objs.size) xs Vs:=hV.mono0 (x3.to0 (gn R2 hm2 hit2.inert))
 have xx:eL (· =s.heap.objs.size) ρ H.length news ρ H.length (cut news2 s.heap.objs.size):=(x1.toB.trans x2).trans x3
 exact P ρ _ Vs h3 tk2 R4 (xx.ext fun p hp=>Nat.ne_of_lt (Heap.lt_size (R.N p hp).1)) hV4
end
section
variable{w:World}{K:Frag}{base:Heap}{n k:Nat}{A:Around}{s:Shared}{h₀:Heap}{L:Addr}{m:Str→Option Value}{news:Led}{ρ:Nat→Addr}{H H':HH}{cx:Cx}{env:Env}{loc loc':Loc}{fl:Bool}{v:MV}{E:Value→Shared→Prop}
noncomputable def jG(pw:Program)(w:World)(base h₀:Heap)(L:Addr)(cx:Cx)(env:Env)(ρ:Nat→Addr)(news:Led)(H:HH)(s:Shared)(loc':Loc)(H':HH)(Q:Shared→Prop):Prop:=
 ∀ρ' news' m' h' tk,Rel pw w base h₀ L h' m' news' ρ' H'→Ext ρ H.length news ρ' H'.length news'→cL base ρ' H'.length news' cx env m' loc'→Q {s with heap:=h',toks:=tk}
theorem jG.next {ρ1:Nat→Addr}{news1:Led}{H1:HH}{Q:Shared→Prop}(P:jG pw w base h₀ L cx env ρ news H s loc' H' Q)(x:Ext ρ H.length news ρ1 H1.length news1)(h1:Heap)(tk1:Nat):jG pw w base h₀ L cx env ρ1 news1 H1 {s with heap:=h1,toks:=tk1} loc' H' Q:=
 fun ρ' news' m' h' tk R x' hl=>P ρ' news' m' h' tk R (x.trans x') hl
theorem kM{x:Str}{i:Nat}(h:eP cx x i=true):cx.locs[i]? =some x∧cx.sc.lookup x=some .local:=by
 obtain⟨h1,h2⟩:=dI h
 refine⟨?_,iJ h2⟩
 cases e:cx.locs[i]? with
 |none=>rw[e]at h1;exact bF h1
 |some y=>rw[e]at h1;exact congrArg some (beq_iff_eq.mp h1)
theorem dJ.kindOf (EO:dJ cx L env)(x:Str):env.kindOf x=cx.sc.lookup x:=by unfold Env.kindOf;rw[EO.names]
theorem dJ.fn (EO:dJ cx L env):(env.scope.kind== .class||(env.scope.kind== .module&&env.locals !=env.globals))=false:=by rw[EO.kind];rfl
theorem nz{x:Str}{i:Nat}{V:Value}{Q:Unit→Shared→Prop}(hc:eP cx x i=true)(EO:dJ cx L env)(R:Rel pw w base h₀ L s.heap m news ρ H)(LO:cL base ρ H.length news cx env m loc)(hv:aY base ρ H.length news v V)
  (P:jG pw w base h₀ L cx env ρ news H s (loc.set i v) H (Q ())):wpAny (model pw w) A (bindName env x V) Q E s:=by
 obtain⟨h1,h2⟩:=kM hc
 have hn:s.heap.Ns env.locals m:=by rw[EO.loc];exact R.F.ns
 refine wpAny_bindName (wpAny_storeName_local (by rw[EO.kindOf,h2]) hn (fun h' hn' hs'=> ?_) EO.fn)
 rw[EO.loc]at hn' hs'
 exact P ρ news _ h' _ (R.store hn' hs') .refl (LO.set h1 h2 hv)
set_option backward.match.sparseCases true in
theorem kN(I:SE pw w base fns n k)(B:Bs base fns){e:Expr}{t:IT}{V:Value}{Q:Unit→Shared→Prop}(c:tZ k cx e t=true)(ev:lF (ao fns n) fl t v loc H=some (loc',H'))
  (h:Here pw w base n A s h₀ L m news ρ H cx env loc)(hv:aY base ρ H.length news v V)(P:jG pw w base h₀ L cx env ρ news H s loc' H' (Q ())):wpP fl (model pw w) A (assign e env V) Q s:=by
 cases gB c with
 | @loc x pos i c=>
  obtain⟨_,ev⟩:=aO ev
  obtain⟨e1,e2⟩:=cp ev
  rw[←e1,←e2]at P
  refine aL ?_
  show wpAny _ _ (do standAt pos;bindName env x V) _ _ s
  exact wpAny_bind (wpAny_standAt (nz c h.EO h.R h.LO hv P))
 | @attr o j pos io hj c1 hn=>
  obtain⟨x,H1,e1,ev⟩:=aD ev
  obtain⟨H2,e2,ev⟩:=Option.map_eq_some_iff.mp ev
  obtain⟨e3,e4⟩:=Prod.mk.inj ev
  rw[←e3,←e4]at P
  show wpP fl _ _ (do let ov←holding [V] (eval o env);standAt pos.atName;holding [V,ov] (setAttr ov (nm j) V);release [V,ov] []) Q s
  refine aj (aE (I c1 e1 h fun ρ1 news1 X h1 tk1 R1 x1 hX=> ?_))
  refine aj (aG (aj (aE (aL (lY e2 B h.st R1 hX (hv.mono x1) fun ρ2 news2 h2 tk2 R2 x2=> ?_)))))
  exact aL (wpAny_release (P _ _ _ _ _ R2 (x1.trans x2) (h.LO.mono (x1.trans x2))))
 | @sub o i pos a b hs c1 c2=>
  obtain⟨x,H1,e1,ev⟩:=aD ev
  obtain⟨y,H2,e2,ev⟩:=aD ev
  obtain⟨H3,e3,ev⟩:=Option.map_eq_some_iff.mp ev
  obtain⟨e4,e5⟩:=Prod.mk.inj ev
  rw[←e4,←e5]at P
  show wpP fl _ _ (do
   let ov←holding [V] (eval o env)
   let iv←holding [V,ov] (eval i env)
   standAt pos
   holding [V,ov,iv] (setItem ov iv V)
   release (match(generalizing:=false) i with| .Slice _ _ none _=>[iv,V,ov]|_=>[V,ov,iv]) []) Q s
  refine aj (aE (I c1 e1 h fun ρ1 news1 X h1 tk1 R1 x1 hX=> ?_))
  refine aj (aE (I c2 e2 (h.next R1 x1 tk1) fun ρ2 news2 Y h2 tk2 R2 x2 hY=> ?_))
  refine aj (aG (aj (aE (aL (sX e3 R2 (hX.mono x2) hY ((hv.mono x1).mono x2) fun ρ3 news3 h3 tk3 R3 x3=> ?_)))))
  have xx:=(x1.trans x2).trans x3
  exact aL (wpAny_release (P _ _ _ _ _ R3 xx (h.LO.mono xx)))
theorem oS{k:Nat}{e:Expr}{it:IT}{es:List Expr}(h:tZ k cx e it=true):assignEach (e::es) env=(false,assign e env)::assignEach es env:=by
 cases gB h<;>rfl
theorem kO{k:Nat}{e:Expr}{es:List Expr}{ts:List IT}(h:j5 k cx (e::es) ts=true):dk fun t r=>bx (ts=t::r) (tZ k cx e t=true) (j5 k cx es r=true):=by
 cases ts with
 |nil=>exact bF h
 |cons t r=>exact⟨t,r,rfl,(dI h).1,(dI h).2⟩
theorem kP{k:Nat}{ts:List IT}(h:j5 k cx [] ts=true):ts=[]:=by
 cases ts with
 |nil=>rfl
 |cons t r=>exact bF h
theorem kQ{vs:List MV}{r:Loc×HH}(e:gT (ao fns n) fl [] vs loc H=some r):vs=[]∧(loc,H)=r:=by
 cases vs with
 |nil=>exact⟨rfl,Option.some.inj e⟩
 |cons=>exact aV e
theorem jg{t:IT}{ts:List IT}{vs:List MV}{r:Loc×HH}(e:gT (ao fns n) fl (t::ts) vs loc H=some r):jM fun v us loc1 H1=>bx (vs=v::us) (lF (ao fns n) fl t v loc H=some (loc1,H1)) (gT (ao fns n) fl ts us loc1 H1=some r):=by
 cases vs with
 |nil=>exact aV e
 |cons v us=>obtain⟨loc1,H1,e1,e⟩:=aD e;exact⟨v,us,loc1,H1,rfl,e1,e⟩
theorem jH{k:Nat}: ∀{es:List Expr}{ts:List IT}{vs:List MV}{loc:Loc}{H:HH},j5 k cx es ts=true→gT (ao fns n) fl ts vs loc H=some (loc',H')→(assignEach es env).findIdx? (·.1)=none∧(assignEach es env).length=vs.length:=by
 intro es
 induction es with
 |nil=>intro ts vs loc H c ev;rw[kP c]at ev;rw[(kQ ev).1];exact⟨rfl,rfl⟩
 |cons e es ih=>
  intro ts vs loc H c ev
  obtain⟨t,r,e1,c1,c2⟩:=kO c
  rw[e1]at ev
  obtain⟨v,us,loc1,H1,e2,_,ev⟩:=jg ev
  obtain⟨q1,q2⟩:=ih c2 ev
  rw[oS c1,e2]
  exact⟨by rw[List.findIdx?_cons,q1];rfl,by rw[List.length_cons,List.length_cons,q2]⟩
theorem mj(I:SE pw w base fns n k)(B:Bs base fns): ∀{es:List Expr}{ts:List IT}{vs:List MV}{Vs:List Value}{s:Shared}{m:Str→Option Value}{news:Led}{ρ:Nat→Addr}{H:HH}{loc:Loc}{Q:Unit→Shared→Prop},j5 k cx es ts=true→gT (ao fns n) fl ts vs loc H=some (loc',H')→
  Here pw w base n A s h₀ L m news ρ H cx env loc→br base ρ H.length news vs Vs→jG pw w base h₀ L cx env ρ news H s loc' H' (Q ())→
  wpP fl (model pw w) A (assignInOrder ((assignEach es env).map (·.2)) Vs) Q s:=by
 intro es
 induction es with
 |nil=>
  intro ts vs Vs s m news ρ H loc Q c ev h hV P
  rw[kP c]at ev
  obtain⟨e1,e2⟩:=kQ ev
  obtain⟨e2,e3⟩:=Prod.mk.inj e2
  rw[←e2,←e3]at P
  rw[e1]at hV
  rw[hV.nilInv]
  exact ay (P ρ news m s.heap s.toks h.R .refl h.LO)
 |cons e es ih=>
  intro ts vs Vs s m news ρ H loc Q c ev h hV P
  obtain⟨t,r,e1,c1,c2⟩:=kO c
  rw[e1]at ev
  obtain⟨v,us,loc1,H1,e2,e3,ev⟩:=jg ev
  obtain⟨V,Ws,e4,hv,hV⟩:=(e2▸hV).consInv
  rw[oS c1,e4]
  show wpP fl _ _ (do holding Ws (assign e env V);assignInOrder ((assignEach es env).map (·.2)) Ws) Q s
  refine aj (aE (kN I B c1 e3 h hv fun ρ1 news1 m1 h1 tk1 R1 x1 LO1=> ?_))
  exact ih c2 ev ⟨h.A,h.st,h.EO,R1,LO1⟩ (hV.mono x1) (P.next x1 _ _)
end
inductive vO(base:Heap)(ρ:Nat→Addr)(N:Nat)(news:Led):Fl→Flow→Prop
 |next:vO base ρ N news .next .next
 |brk:vO base ρ N news .brk .brk
 |cont:vO base ρ N news .cont .cont
 |ret {v:MV}{V:Value}:aY base ρ N news v V→vO base ρ N news (.ret v) (.ret V)
section
variable{b:Bool}{M:Model}{A:Around}{s:Shared}
theorem kR{c:Code}{R:Result→Shared→Prop}(hq:c.quiet=true)(hk:rH c=true)(I:Nat→Shared→Prop)
  (turn: ∀n s,I n s→wpP b M (A.under c) (M.den c)
   (fun fin s'=>match fin with| .done f=>R (.ok f) s'| .again c'=>(c'=c∧ ∃m,m<n∧I m s')∨(c'.quiet=true∧rH c'=true∧cV b M A c' R s')) s)
  (n:Nat)(h:I n s):cV b M A c R s:=by
 induction n using Nat.strongRecOn generalizing s with
 |ind n ih=>
  refine bJ (dH (turn n s h) fun fin s' hf=> ?_)
  cases fin with
  |done f=>exact hf
  |again c'=>
   rcases hf with⟨rfl,m,hm,hI⟩|hf
   ·exact⟨hq,hk,ih m hm hI⟩
   ·exact hf
theorem kS{c:Code}{env:Env}{Q:Flow→Shared→Prop}(hk:rH c=true)(hc:cV b M A c (fun r s'=>match r with| .ok f=>Q f s'| .error _=>False) s):wpP b M A (runOwn c env) Q s:=cy (yA hk hc)
end
section
variable(pw:Program)(w:World)(base:Heap)(fns:Nat→Option Fn)(n:Nat)
noncomputable def gN(h₀:Heap)(L:Addr)(cx:Cx)(env:Env)(ρ:Nat→Addr)(news:Led)(H:HH)(s:Shared)(f:Fl)(loc':Loc)(H':HH)(Q:Flow→Shared→Prop):Prop:=
 ∀ρ' news' m' h' tk F,Rel pw w base h₀ L h' m' news' ρ' H'→Ext ρ H.length news ρ' H'.length news'→cL base ρ' H'.length news' cx env m' loc'→vO base ρ' H'.length news' f F→Q F {s with heap:=h',toks:=tk}
noncomputable def kT(cx:Cx)(st:Stmt)(is:IS):Prop:= ∀ ⦃fl:Bool⦄ ⦃loc:Loc⦄ ⦃H:HH⦄ ⦃f:Fl⦄ ⦃loc':Loc⦄ ⦃H':HH⦄,cU (ao fns n) fl is loc H=some (f,loc',H')→
 ∀ ⦃env:Env⦄ ⦃A:Around⦄ ⦃s:Shared⦄ ⦃h₀:Heap⦄ ⦃L:Addr⦄ ⦃m:Str→Option Value⦄ ⦃news:Led⦄ ⦃ρ:Nat→Addr⦄ ⦃Q:Flow→Shared→Prop⦄,
  Here pw w base n A s h₀ L m news ρ H cx env loc→gN pw w base h₀ L cx env ρ news H s f loc' H' Q→wpP fl (model pw w) A (exec st env) Q s
noncomputable def SS(k:Nat):Prop:= ∀{cx:Cx}{st:Stmt}{is:IS},Dd k cx st is=true→kT pw w base fns n cx st is
noncomputable def BW(k:Nat):Prop:= ∀{cx:Cx}{sts:List Stmt}{iss:fY},fD k cx sts iss=true→ ∀{fl:Bool}{loc:Loc}{H:HH}{f:Fl}{loc':Loc}{H':HH},bQ (ao fns n) fl iss loc H=some (f,loc',H')→
 ∀{env:Env}{A:Around}{s:Shared}{h₀:Heap}{L:Addr}{m:Str→Option Value}{news:Led}{ρ:Nat→Addr}{Q:Flow→Shared→Prop},
  Here pw w base n A s h₀ L m news ρ H cx env loc→gN pw w base h₀ L cx env ρ news H s f loc' H' Q→wpP fl (model pw w) A (execs sts env) Q s
end
section
variable{w:World}{K:Frag}{base:Heap}{n k:Nat}{A:Around}{s:Shared}{h₀:Heap}{L:Addr}{m:Str→Option Value}{news:Led}{ρ:Nat→Addr}{H H':HH}{cx:Cx}{env:Env}{loc loc':Loc}{fl:Bool}{f:Fl}{v:MV}{Q:Flow→Shared→Prop}
theorem fu{γ:Type}{x:Option (Fl×Loc×HH)}{g:Fl→Loc→HH→Option γ}{r:γ}(h:mO x g=some r):iX fun a b c=>x=some (a,b,c)∧g a b c=some r:=by
 cases x with
 |none=>exact aV h
 |some p=>exact⟨p.1,p.2.1,p.2.2,rfl,h⟩
theorem EG{α β γ:Type}{a a':α}{b b':β}{c c':γ}(h:some (a,b,c)=some (a',b',c')):a=a'∧b=b'∧c=c':=⟨(cp h).1,Prod.mk.inj (cp h).2⟩
theorem gN.at {g:Fl}{loc1:Loc}{H1:HH}(P:gN pw w base h₀ L cx env ρ news H s f loc' H' Q)(e:some (g,loc1,H1)=some (f,loc',H')):gN pw w base h₀ L cx env ρ news H s g loc1 H1 Q:=by
 obtain⟨e1,e2,e3⟩:=EG e
 rw[e1,e2,e3];exact P
theorem gN.next {ρ1:Nat→Addr}{news1:Led}{H1:HH}(P:gN pw w base h₀ L cx env ρ news H s f loc' H' Q)(x:Ext ρ H.length news ρ1 H1.length news1)(h1:Heap)(tk1:Nat):gN pw w base h₀ L cx env ρ1 news1 H1 {s with heap:=h1,toks:=tk1} f loc' H' Q:=
 fun ρ' news' m' h' tk F R x' hl hf=>P ρ' news' m' h' tk F R (x.trans x') hl hf
theorem Hb(T:ST pw w base fns n k)(S:BW pw w base fns n k){t:Expr}{a b:List Stmt}{t':IE}{a' b':fY}{pos:Pos}(c0:bB k cx t t'=true)(c1:fD k cx a a'=true)(c2:fD k cx b b'=true):kT pw w base fns n cx (.If t a b pos) (.ite t' a' b'):=by
 intro fl loc H f loc' H' ev env A s h₀ L m news ρ Q h P
 rw[arm_exec_If]
 rcases dc ev with⟨H1,e1,ev⟩|⟨H1,e1,ev⟩
 ·refine aj (aG (aj (T c0 e1 h fun ρ1 news1 h1 tk1 R1 x1=> ?_)))
  exact S c1 ev (h.next R1 x1 tk1) (P.next x1 _ _)
 ·refine aj (aG (aj (T c0 e1 h fun ρ1 news1 h1 tk1 R1 x1=> ?_)))
  exact S c2 ev (h.next R1 x1 tk1) (P.next x1 _ _)
theorem EH(I:SE pw w base fns n k){e:Expr}{ie:IE}{pos:Pos}(c:bB k cx e ie=true):kT pw w base fns n cx (.Return (some e) pos) (.ret ie):=by
 intro fl loc H f loc' H' ev env A s h₀ L m news ρ Q h P
 obtain⟨v,H1,e1,ev⟩:=aD ev
 replace P:=P.at ev
 rw[arm_exec_Return]
 refine aj (aG ?_)
 show wpP fl _ _ (do return Flow.ret (←eval e env)) _ _
 refine aj (I c e1 h fun ρ1 news1 X h1 tk1 R1 x1 hX=>ay ?_)
 exact P _ _ _ _ _ _ R1 x1 (h.LO.mono x1) (.ret hX)
theorem BX{pos:Pos}:kT pw w base fns n cx (.Return none pos) (.ret (.c .none)):=by
 intro fl loc H f loc' H' ev env A s h₀ L m news ρ Q h P
 replace P:=P.at (g:= .ret .none) (loc1:=loc) (H1:=H) ev
 rw[arm_exec_Return]
 refine aj (aG ?_)
 exact ay (P _ _ _ _ _ _ h.R .refl h.LO (.ret .none))
theorem qA{e:Expr}{l:Nat}(hc:fB e=false):swapsWith e none l env=pure false:=by
 cases e with
 |ListComp=>exact bF hc.symm
 |SetComp=>exact bF hc.symm
 |DictComp=>exact bF hc.symm
 |_=>rfl
theorem Hc(I:SE pw w base fns n k){e:Expr}{ie:IE}{pos:Pos}(c:bB k cx e ie=true)(hc:fB e=false):kT pw w base fns n cx (.Expr e pos) (.ex ie):=by
 intro fl loc H f loc' H' ev env A s h₀ L m news ρ Q h P
 obtain⟨v,H1,e1,ev⟩:=aD ev
 replace P:=P.at ev
 have hi:interactive env=false:=by unfold interactive;rw[h.EO.kind];rfl
 have hs:swapsWith e none pos.line env=pure false:=qA hc
 rw[PySem.exec_Expr env e pos hi hs]
 refine aj (aG (aj (I c e1 h fun ρ1 news1 X h1 tk1 R1 x1 hX=> ?_)))
 exact aL (wpAny_dropValue (P _ _ _ _ _ _ R1 x1 (h.LO.mono x1) .next))
theorem oT{o:fz}{old v:MV}{c:Int}(h:ue o old v=some c):o= .add∧dk fun x y=>bx (old= .int x) (v= .int y) (x+y=c):=by
 cases o with
 |add=>obtain⟨x,y,e1,e2,e⟩:=oq h;exact⟨rfl,x,y,e1,e2,Option.some.inj e⟩
 |_=>exact aV h
theorem vP{op:Operator}(h:j3 op=some .add):op= .Add:=by
 cases op with
 |Add=>rfl
 |_=>cases h
theorem BY(I:SE pw w base fns n k){x:Str}{i:Nat}{op:Operator}{o:fz}{e:Expr}{ie:IE}{npos pos:Pos}(c0:eP cx x i=true)(ho:j3 op=some o)(c1:bB k cx e ie=true):kT pw w base fns n cx (.AugAssign (.Name x npos) op e pos) (.augL i o ie):=by
 intro fl loc H f loc' H' ev env A s h₀ L m news ρ Q h P
 obtain⟨hx,hk⟩:=kM c0
 obtain⟨old,hold,ev⟩:=Option.bind_eq_some_iff.mp ev
 obtain⟨v,H1,e1,ev⟩:=aD ev
 obtain⟨c,ec,ev⟩:=Option.bind_eq_some_iff.mp ev
 obtain⟨_,ev⟩:=aO ev
 obtain⟨eo,x0,y0,ex,ey,es⟩:=oT ec
 rw[←es]at ev
 replace P:=P.at ev
 rw[eo]at ho
 rw[vP ho,arm_exec_AugAssign]
 have q:=h.LO.at_ i x _ hx (fG hold).2
 unfold bW at q
 rw[hk]at q
 rcases q with⟨q,_⟩|⟨V,q1,q2⟩
 ·exact absurd q (fG hold).1
 rw[ex]at q2
 rw[ey]at e1
 refine aj (aG (aT (wpAny_loadName_local h.EO.kind (by rw[h.EO.kindOf,hk]) (by rw[h.EO.loc];exact h.R.F.ns) q1 ?_)))
 refine aj (aE (I c1 e1 h fun ρ1 news1 X h1 tk1 R1 x1 hX=> ?_))
 refine aj (aG (aj (ew (aL (vf R1 (q2.mono x1) hX fun ρ2 news2 Y h2 tk2 R2 x2 hY=> ?_)))))
 refine aj (aG (aT ?_))
 have xx:=x1.trans x2
 refine nz (v:= .int (x0+y0)) (Q:=fun _ s'=>wpP fl (model pw w) A (pure Flow.next) Q s') c0 h.EO R2 (h.LO.mono xx) hY fun ρ3 news3 m3 h3 tk3 R3 x3 LO3=>ay ?_
 exact P _ _ _ _ _ _ R3 (xx.trans x3) LO3 .next
theorem oU{v u:MV}{k:Nat}(h:iq H v k=some u):jM fun i c d fs=>cC (cz H v=some (i,c,d)) (ck c k= .plain) (H[d]? =some (.attrs fs)) (dS fs k=some u):=by
 unfold iq at h
 cases q:cz H v with
 |none=>rw[q]at h;exact aV h
 |some p=>
  obtain⟨i,c,d⟩:=p
  rw[q]at h
  dsimp only at h
  cases q1:ck c k with
  |plain=>
   rw[q1]at h
   dsimp only at h
   cases q2:H[d]? with
   |none=>rw[q2]at h;exact aV h
   |some o=>
    rw[q2]at h
    cases o with
    |attrs fs=>exact⟨i,c,d,fs,rfl,q1,q2,h⟩
    |_=>exact aV h
  |_=>rw[q1]at h;exact aV h
theorem BZ(I:SE pw w base fns n k)(B:Bs base fns){ob:Expr}{b:IE}{j:Nat}{op:Operator}{o:fz}{e:Expr}{ie:IE}{tpos pos:Pos}(hj:j<223)(c0:bB k cx ob b=true)(ho:j3 op=some o)(c1:bB k cx e ie=true):kT pw w base fns n cx (.AugAssign (.Attribute ob (nm j) tpos) op e pos) (.augA b j o ie):=by
 intro fl loc H f loc' H' ev env A s h₀ L m news ρ Q h P
 obtain⟨ov,H1,e1,ev⟩:=aD ev
 obtain⟨old,hold,ev⟩:=Option.bind_eq_some_iff.mp ev
 obtain⟨v,H2,e2,ev⟩:=aD ev
 obtain⟨c,ec,ev⟩:=Option.bind_eq_some_iff.mp ev
 obtain⟨H4,e4,ev⟩:=Option.map_eq_some_iff.mp ev
 obtain⟨eo,x0,y0,ex,ey,es⟩:=oT ec
 obtain⟨i,cl,d,fs,hi,hck,hd,hg⟩:=oU hold
 replace P:=P.at (congrArg some ev)
 rw[ey]at e2
 rw[←es]at e4
 rw[ex]at hg
 rw[eo]at ho
 rw[vP ho,arm_exec_AugAssign_2]
 refine aj (aG (aj (I c0 e1 h fun ρ1 news1 X h1 tk1 R1 x1 hX=> ?_)))
 refine aj (aE (aj (aG (aT (rJ B h.st hj hi hck hd hg R1 hX fun ρ2 news2 O h2 tk2 R2 x2 hO=> ?_)))))
 have h2':=(h.next R1 x1 tk1).next R2 x2 tk2
 refine aj (aE (I c1 e2 h2' fun ρ3 news3 Y h3 tk3 R3 x3 hY=> ?_))
 refine aj (aG (ew (aL (vf R3 (hO.mono x3) hY fun ρ4 news4 Z h4 tk4 R4 x4 hZ=> ?_))))
 have hX4:=hX.mono ((x2.trans x3).trans x4)
 refine aj (aG (aj (aE (aL (lY e4 B h.st R4 hX4 hZ fun ρ5 news5 h5 tk5 R5 x5=> ?_)))))
 have xx:=(((x1.trans x2).trans x3).trans x4).trans x5
 exact aT (wpAny_release (ay (P _ _ _ _ _ _ R5 xx (h.LO.mono xx) .next)))
end
section
variable{w:World}{K:Frag}{base:Heap}{n k:Nat}{A:Around}{s:Shared}{h₀:Heap}{L:Addr}{m:Str→Option Value}{news:Led}{ρ:Nat→Addr}{H H':HH}{cx:Cx}{env:Env}{loc loc':Loc}{fl:Bool}{f:Fl}{v:MV}{Q:Flow→Shared→Prop}{E:Value→Shared→Prop}
theorem kU{e:Expr}{t:IT}(h:tZ k cx e t=true):(assignEach [e] env).map (·.2)=[assign e env]:=by
 cases gB h<;>rfl
theorem oV{e v:Expr}{t:IT}(h:tZ k cx e t=true):swappedStores [e] v env=pure none:=by
 cases gB h<;>rfl
theorem vQ(I:SE pw w base fns n k)(B:Bs base fns){e v:Expr}{t:IT}{ie:IE}{pos:Pos}(c0:tZ k cx e t=true)(c1:bB k cx v ie=true)(hs:swapsWithSole [e] v pos.line env=pure false)(ev:cU (ao fns n) fl (.assign t ie) loc H=some (f,loc',H'))
  (h:Here pw w base n A s h₀ L m news ρ H cx env loc)(P:gN pw w base h₀ L cx env ρ news H s f loc' H' Q):wpP fl (model pw w) A (exec (.Assign [e] v pos) env) Q s:=by
 obtain⟨u,H1,e1,ev⟩:=aD ev
 obtain⟨loc2,H2,e2,ev⟩:=aD ev
 replace P:=P.at ev
 rw[arm_exec_Assign,hs]
 refine aj (aG (aj (ay ?_)))
 simp only[Bool.false_eq_true,if_false]
 refine aj (I c1 e1 h fun ρ1 news1 X h1 tk1 R1 x1 hX=> ?_)
 rw[oV c0,kU c0]
 refine aj (ay ?_)
 show wpP fl _ _ (do assignAll X [assign e env];pure .next) Q _
 refine aj (kN I B c0 e2 (h.next R1 x1 tk1) hX fun ρ2 news2 m2 h2 tk2 R2 x2 LO2=>ay ?_)
 exact P _ _ _ _ _ _ R2 (x1.trans x2) LO2 .next
theorem lJ(I:SE pw w base fns n k)(T:ST pw w base fns n k){el cond sr:IE}{elt iter:Expr}{ifs:List Expr}{x y:Str}{i:Nat}{caps:List Nat}{scope:Scope}{px py pos pos':Pos}
  (ck:eU cx scope x caps)(hsr:bB k cx iter sr=true)(hel:bB k (gG cx scope x) elt el=true)(hif:kJ k (gG cx scope x) ifs cond)(hy:eP cx y i=true)
  (hsw:swapsWith (.ListComp elt [⟨.Name x px,iter,ifs,0⟩] scope pos) (some (.Name y py)) pos'.line env=pure true)
  (ev:cU (ao fns n) fl (.assign (.loc i) (.comp el sr cond caps)) loc H=some (f,loc',H'))
  (h:Here pw w base n A s h₀ L m news ρ H cx env loc)(P:gN pw w base h₀ L cx env ρ news H s f loc' H' Q):wpP fl (model pw w) A (exec (.Assign [.Name y py] (.ListComp elt [⟨.Name x px,iter,ifs,0⟩] scope pos) pos') env) Q s:=by
 obtain⟨u,H1,e1,ev⟩:=aD ev
 obtain⟨loc2,H2,e2,ev⟩:=aD ev
 replace P:=P.at ev
 obtain⟨_,e2⟩:=aO e2
 obtain⟨e6,e7⟩:=cp e2
 rw[←e6,←e7]at P
 obtain⟨V,H5,e5,e3⟩:=aD e1
 obtain⟨cs,hcs,e3⟩:=Option.bind_eq_some_iff.mp e3
 obtain⟨H2,e4,e3⟩:=Option.map_eq_some_iff.mp e3
 obtain⟨e8,e9⟩:=Prod.mk.inj e3
 rw[←e8,←e9]at P
 refine aL ?_
 rw[exec_Assign_Name_used _ _ _ _ hsw]
 refine wpAny_bind (wpAny_standAt (wpAny_bind ?_))
 show wpAny _ A (do let _←comprehension (.ListComp elt [⟨.Name x px,iter,ifs,0⟩] scope pos) scope env _ (newList []) false (eval iter env) (some (assign (.Name y py) env))) _ _ s
 have hnames: ∀z∈scope.names,z.2= .local→scope.names.lookup z.1=some .local:=fun z hz q=>by rw[gm ck.nnd hz,q]
 refine wpAny_bind (wpAny_mono (wpAny_comprehension_free (use:=some (assign (.Name y py) env)) (Q:=fun _ s'=>Q .next s') rfl (g5 hsr) (kI (ck.cells hcs h.LO)) ck.kind hnames (eu (I hsr e5 h fun ρ1 news1 X h1 tk1 R1 x1 hX=> ?_))) (fun _ s' hq=>wpAny_pure (wpAny_pure hq)) fun _ _ e=>e)
 obtain⟨it0,e0⟩:=jE e4
 refine wpAny_mono (kK (RR:=compPost (model pw w) A (fun _ _=>False) (some (assign (.Name y py) env)) (fun _ s'=>Q .next s')) (E:=fun _ _=>False) I T ck hcs hel hif (h.next R1 x1 tk1) hX (jF hX e0) e4 fun ρ2 news2 h2 tk2 m2 C D R2 x2 hv hn hc hCL hC0=> ?_) (fun _ _ z=>z) fun _ _ z=>z
 show wpAny _ _ (do standAt py;bindName env y (.ref D)) _ _ _
 obtain⟨j1,j2⟩:=kM hy
 have hns:h2.Ns env.locals m:=by rw[h.EO.loc];exact R2.F.ns
 refine wpAny_bind (wpAny_standAt (wpAny_bindName (wpAny_storeName_local (by rw[h.EO.kindOf,j2]) hns (fun h3 hn3 hs3=> ?_) h.EO.fn)))
 rw[h.EO.loc]at hn3 hs3
 have R3:=R2.store hn3 hs3
 refine⟨m2,hn.sameBut hs3 hCL,fun h4 hs4=> ?_⟩
 have R4:=R3.but (h':=h4) hc (Ne.symm hCL) hC0 fun b o hb z=>hs4.extBut b o hb z
 have xx:=x1.trans x2
 exact P _ _ _ _ _ _ R4 xx ((h.LO.mono xx).set j1 j2 hv) .next
noncomputable def eC:List (Nat×MV)→Loc→Loc
 |[],l=>l
 |p::r,l=>eC r (l.set p.1 p.2)
theorem lK(a b:List (Nat×MV))(l:Loc):eC (a++b) l=eC b (eC a l):=by
 induction a generalizing l with
 |nil=>rfl
 |cons p r ih=>exact ih _
theorem oW{r:List (Nat×MV)}{i:Nat}{u:MV}(h:i∉r.map (·.1))(l:Loc):(eC r l).set i u=eC r (l.set i u):=by
 induction r generalizing l with
 |nil=>rfl
 |cons p r ih=>
  have hne:p.1≠i:=fun e=>h (by rw[←e];exact .head _)
  show(eC r (l.set p.1 p.2)).set i u=eC r ((l.set i u).set p.1 p.2)
  rw[ih (fun hm=>h (.tail _ hm)),List.set_comm _ _ hne]
theorem kW: ∀{r:List (Nat×MV)}(_:(r.map (·.1)).Nodup)(l:Loc),eC r.reverse l=eC r l
 |[],_,_=>rfl
 |p::r,nd,l=>by
  obtain⟨n1,n2⟩:=List.nodup_cons.mp nd
  rw[List.reverse_cons,lK,kW n2]
  exact oW n1 l
theorem tr: ∀{is:List Nat}{vs:List MV}{loc:Loc}{H:HH},gT (ao fns n) fl (is.map .loc) vs loc H=some (loc',H')→loc'=eC (is.zip vs) loc∧H'=H∧is.length=vs.length:=by
 intro is
 induction is with
 |nil=>
  intro vs loc H e
  obtain⟨e1,e2⟩:=kQ e
  obtain⟨e2,e3⟩:=Prod.mk.inj e2
  rw[e1];exact⟨e2.symm,e3.symm,rfl⟩
 |cons i is ih=>
  intro vs loc H e
  obtain⟨v,us,loc1,H1,e1,e2,e⟩:=jg e
  obtain⟨_,e2⟩:=aO e2
  obtain⟨e3,e4⟩:=cp e2
  rw[←e3,←e4]at e
  obtain⟨q1,q2,q3⟩:=ih e
  rw[e1];exact⟨q1,q2,congrArg Nat.succ q3⟩
theorem jI{i:Nat}{is:List Nat}{vs:List MV}{loc1:Loc}(e:fb (i::is) vs loc=some loc1):dk fun v us=>bx (vs=v::us) (Nat.blt i loc.length=true) (fb is us (loc.set i v)=some loc1):=by
 cases vs with
 |nil=>exact aV e
 |cons v us=>obtain⟨h,e⟩:=aO e;exact⟨v,us,rfl,h,e⟩
theorem oX: ∀{is:List Nat}{vs:List MV}{loc loc1:Loc},fb is vs loc=some loc1→gT (ao fns n) fl (is.map .loc) vs loc H=some (loc1,H):=by
 intro is
 induction is with
 |nil=>
  intro vs loc loc1 e
  cases vs with
  |nil=>exact congrArg (fun l=>some (l,H)) (Option.some.inj e)
  |cons=>exact aV e
 |cons i is ih=>
  intro vs loc loc1 e
  obtain⟨v,us,e1,hb,e⟩:=jI e
  rw[e1]
  show eX (if Nat.blt i loc.length then some (loc.set i v,H)else none) _=_
  rw[if_pos hb]
  exact ih e
theorem tu{t:Expr}{ts:List Expr}{is:List Nat}(h:j6 cx (t::ts) is=true):jM fun x p i q=>cC (t= .Name x p) (is=i::q) (eP cx x i=true) (j6 cx ts q=true):=by
 cases is with
 |nil=>exact bF h
 |cons i q=>
  obtain⟨h1,h2⟩:=dI h
  cases t with
  |Name x p=>exact⟨x,p,i,q,rfl,rfl,h1,h2⟩
  |_=>exact bF h1
theorem qB: ∀{ts:List Expr}{is:List Nat},j6 cx ts is=true→j5 k cx ts (is.map .loc)=true:=by
 intro ts
 induction ts with
 |nil=>
  intro is h
  cases is with
  |nil=>rfl
  |cons=>exact bF h
 |cons t ts ih=>
  intro is h
  obtain⟨x,p,i,q,e1,e2,h1,h2⟩:=tu h
  rw[e1,e2]
  exact Bool.and_eq_true_iff.mpr ⟨h1,ih h2⟩
noncomputable def qC:Expr→Option Str
 | .Name x _=>some x
 |_=>none
noncomputable def namesOf:List Expr→Option (List Str)
 |[]=>some []
 |e::r=>match qC e with
  |some x=>(namesOf r).map (x:: ·)
  |none=>none
noncomputable def gp(cx:Cx):List Str→List Nat→Prop
 |[],l=>l=[]
 |x::r,l=>match l with
  |[]=>False
  |i::q=>eP cx x i=true∧gp cx r q
theorem qD{e:Expr}{x:Str}(h:qC e=some x): ∃p,e= .Name x p:=by
 cases e with
 |Name y p=>exact⟨p,by rw[Option.some.inj h]⟩
 |_=>exact aV h
theorem oY{e:Expr}{r:List Expr}{l:List Str}(h:namesOf (e::r)=some l):iX fun x p q=>bx (e= .Name x p) (namesOf r=some q) (x::q=l):=by
 unfold namesOf at h
 cases h1:qC e with
 |none=>rw[h1]at h;exact aV h
 |some x=>
  rw[h1]at h
  obtain⟨q,h2,h3⟩:=Option.map_eq_some_iff.mp h
  obtain⟨p,e⟩:=qD h1
  exact⟨x,p,q,e,h2,h3⟩
theorem qE: ∀{ts:List Expr}{its:List IT}{names:List Str},j5 k cx ts its=true→namesOf ts=some names→its=(fC its).map .loc∧gp cx names (fC its):=by
 intro ts
 induction ts with
 |nil=>intro its names c h;rw[kP c,←Option.some.inj h];exact⟨rfl,rfl⟩
 |cons t ts ih=>
  intro its names c h
  obtain⟨it,r,e1,c1,c2⟩:=kO c
  obtain⟨x,p,q,e2,h2,e3⟩:=oY h
  obtain⟨q1,q2⟩:=ih c2 h2
  rw[e2]at c1
  rw[e1,←e3]
  cases it with
  |loc i=>exact⟨congrArg _ q1,c1,q2⟩
  |_=>exact bF c1
theorem yX: ∀{names:List Str}{is:List Nat}{vs:List MV}{Vs:List Value}{s:Shared}{m:Str→Option Value}{news:Led}{ρ:Nat→Addr}{loc:Loc}{Q:Unit→Shared→Prop},gp cx names is→dJ cx L env→Rel pw w base h₀ L s.heap m news ρ H→cL base ρ H.length news cx env m loc→br base ρ H.length news vs Vs→is.length=vs.length→
  jG pw w base h₀ L cx env ρ news H s (eC (is.zip vs) loc) H (Q ())→wpAny (model pw w) A (assignInOrder (names.map fun x=>bindName env x) Vs) Q E s:=by
 intro names
 induction names with
 |nil=>
  intro is vs Vs s m news ρ loc Q ho EO R LO hV hl P
  rw[show is=[]from ho]at hl P
  rw[List.length_eq_zero_iff.mp hl.symm]at hV
  rw[hV.nilInv]
  exact wpAny_pure (P ρ news m s.heap s.toks R .refl LO)
 |cons x names ih=>
  intro is vs Vs s m news ρ loc Q ho EO R LO hV hl P
  cases is with
  |nil=>exact False.elim ho
  |cons i is=>
   cases vs with
   |nil=>exact Nat.noConfusion hl
   |cons v vs=>
    obtain⟨V,Ws,e,hv,hV⟩:=hV.consInv
    rw[e]
    show wpAny _ _ (do holding Ws (bindName env x V);assignInOrder (names.map fun x=>bindName env x) Ws) Q E s
    refine wpAny_bind (wpAny_holding (nz ho.1 EO R LO hv fun ρ1 news1 m1 h1 tk1 R1 x1 LO1=> ?_))
    exact ih ho.2 EO R1 LO1 (hV.mono x1) (Nat.succ.inj hl) (P.next x1 _ _)
theorem gq{g:Expr→Option Str}(hg: ∀e x,g e=some x→ ∃p,e= .Name x p): ∀{ts:List Expr},(ts.filterMap g).length=ts.length→namesOf ts=some (ts.filterMap g)
 |[],_=>rfl
 |t::ts,h=>by
  rw[List.filterMap_cons]at h⊢
  cases e:g t with
  |none=>
   rw[e]at h
   dsimp only at h
   have:(ts.filterMap g).length≤ts.length:=List.length_filterMap_le _ _
   rw[List.length_cons]at h
   omega
  |some x=>
   rw[e]at h
   dsimp only at h⊢
   obtain⟨p,rfl⟩:=hg t x e
   unfold namesOf
   rw[gq hg (by simpa using h)]
   rfl
theorem EI{P:List Str→Prop}{b1 b2 b3 b4 b5:Bool}{names:List Str}{u:Sem (Option (List Str))}(h5:b1=false→b4=false→b5=false)(hn:b3=false→P names):
  (if b1=true then pure none else if b2=true then pure none else if b3=true then pure none else if b4=true then pure none else if b5=true then u else pure (some names):Sem (Option (List Str)))=pure none∨
   ∃n,(if b1=true then pure none else if b2=true then pure none else if b3=true then pure none else if b4=true then pure none else if b5=true then u else pure (some names):Sem (Option (List Str)))=pure (some n)∧P n:=by
 cases b1 with
 |true=>exact .inl rfl
 |false=>
  cases b2 with
  |true=>exact .inl rfl
  |false=>
   cases b3 with
   |true=>exact .inl rfl
   |false=>
    cases b4 with
    |true=>exact .inl rfl
    |false=>rw[h5 rfl rfl];exact .inr ⟨names,rfl,hn rfl⟩
theorem qF{ts:List Expr}{kk:Nat}{tp:Pos}{v:Expr}(hv:mS ts v=false):swappedStores [.Tuple ts kk tp] v env=pure none∨ ∃names,swappedStores [.Tuple ts kk tp] v env=pure (some names)∧namesOf ts=some names:=by
 cases v with
 |Tuple vs kv pv=>
  refine EI (P:=fun n=>namesOf ts=some n) (fun h1 h4=> ?_) (fun h3=>gq (fun e x hg=> ?_) (bne_eq_false_iff_eq.mp (Bool.or_eq_false_iff.mp h3).1))
  ·have e:=bne_eq_false_iff_eq.mp (Bool.or_eq_false_iff.mp (Bool.or_eq_false_iff.mp h1).1).2
   have hv:(vs.length==ts.length&&vs.all (constantsAlone 8)&& !vs.all (foldedForSure 8))=false:=hv
   rw[e,h4,beq_self_eq_true,Bool.true_and,Bool.not_false,Bool.and_true]at hv
   exact hv
  ·cases e with
   |Name y p=>
    obtain⟨_,e⟩:=aO hg
    rw[Option.some.inj e];exact⟨p,rfl⟩
   |_=>exact aV hg
 |_=>exact .inl rfl
theorem oZ{x:Str}{i:Nat}: ∀{names:List Str}{is:List Nat},gp cx names is→eP cx x i=true→gp cx (names++[x]) (is++[i]):=by
 intro names
 induction names with
 |nil=>intro is h g;rw[show is=[]from h];exact⟨g,rfl⟩
 |cons y names ih=>
  intro is h g
  cases is with
  |nil=>exact False.elim h
  |cons j is=>exact⟨h.1,ih h.2 g⟩
theorem qG: ∀{names:List Str}{is:List Nat},gp cx names is→gp cx names.reverse is.reverse:=by
 intro names
 induction names with
 |nil=>intro is h;rw[show is=[]from h];exact rfl
 |cons y names ih=>
  intro is h
  cases is with
  |nil=>exact False.elim h
  |cons j is=>rw[List.reverse_cons,List.reverse_cons];exact oZ (ih h.2) h.1
theorem qH: ∀{names:List Str}{is:List Nat},gp cx names is→names.length=is.length:=by
 intro names
 induction names with
 |nil=>intro is h;rw[show is=[]from h];rfl
 |cons y names ih=>
  intro is h
  cases is with
  |nil=>exact False.elim h
  |cons j is=>exact congrArg Nat.succ (ih h.2)
theorem br.reverse {N:Nat}{vs:List MV}: ∀{Vs:List Value},br base ρ N news vs Vs→br base ρ N news vs.reverse Vs.reverse:=by
 induction vs with
 |nil=>intro Vs h;rw[h.nilInv];exact .nil
 |cons v vs ih=>
  intro Vs h
  obtain⟨V,Ws,e,h1,h2⟩:=h.consInv
  rw[e,List.reverse_cons,List.reverse_cons]
  exact(ih h2).append (.cons h1 .nil)
theorem kX{e v:Expr}{l:Nat}(h:fB v=false):swapsWithSole [e] v l env=pure false:=by
 cases v with
 |ListComp=>exact bF h.symm
 |SetComp=>exact bF h.symm
 |DictComp=>exact bF h.symm
 |_=>rfl
theorem yY{a:List Nat}: ∀{b:List MV},a.length=b.length→a.reverse.zip b.reverse=(a.zip b).reverse:=by
 induction a with
 |nil=>intro b _;rfl
 |cons x a ih=>
  intro b hab
  cases b with
  |nil=>exact Nat.noConfusion hab
  |cons y b=>
   have hab:a.length=b.length:=Nat.succ.inj hab
   rw[List.reverse_cons,List.reverse_cons,List.zip_append (by rw[List.length_reverse,List.length_reverse,hab]),ih hab]
   show _=((x,y)::a.zip b).reverse
   rw[List.reverse_cons]
   rfl
theorem vR{u:MV}{H1:HH}{F:List MV→Option (Fl×Loc×HH)}{r:Fl×Loc×HH}(e:(match u with
  | .tup vs=>F vs
  | .ref n=>match H1[n]? with
   |some (.list vs)=>F vs
   |_=>none
  |_=>none)=some r): ∃vs,mh H1 u=some vs∧F vs=some r:=by
 cases u with
 |tup vs=>exact⟨vs,rfl,e⟩
 |ref n=>
  dsimp only at e
  cases q:H1[n]? with
  |none=>rw[q]at e;exact aV e
  |some o=>
   rw[q]at e
   cases o with
   |list vs=>exact⟨vs,by unfold mh listAt;dsimp only;rw[q],e⟩
   |_=>exact aV e
 |_=>exact aV e
theorem tv(I:SE pw w base fns n k)(B:Bs base fns){ts:List Expr}{its:List IT}{v:Expr}{ie:IE}{kk:Nat}{tp pos:Pos}(c0:j5 k cx ts its=true)(c1:bB k cx v ie=true)(hc:fB v=false)(hsw:mS ts v=false)(hnd:dF (fC its)=true):kT pw w base fns n cx (.Assign [.Tuple ts kk tp] v pos) (.assignT its ie):=by
 intro fl loc H f loc' H' ev env A s h₀ L m news ρ Q h P
 obtain⟨u,H1,e1,ev⟩:=aD ev
 obtain⟨vs,hq,ev⟩:=vR ev
 obtain⟨loc2,H2,e2,ev⟩:=aD ev
 replace P:=P.at ev
 rw[arm_exec_Assign,kX hc]
 refine aj (aG (aj (ay ?_)))
 simp only[Bool.false_eq_true,if_false]
 refine aj (I c1 e1 h fun ρ1 news1 X h1 tk1 R1 x1 hX=> ?_)
 have h1':=h.next R1 x1 tk1
 rcases qF (env:=env) (kk:=kk) (tp:=tp) hsw with hs|⟨names,hs,hn⟩
 ·rw[hs]
  refine aj (ay ?_)
  show wpP fl _ _ (do assignAll X [assign (.Tuple ts kk tp) env];pure .next) Q _
  refine aj ?_
  show wpP fl _ _ (do standAt tp;unpack X (assignEach ts env)) _ _
  refine aj (aG ?_)
  unfold unpack
  have hlen:=jH (env:=env) c0 e2
  rw[hlen.1]
  refine aj (aE (aL (g6 hq hlen.2 h.A.hd R1 hX fun ρ2 news2 Vs h2 tk2 R2 x2 hV=> ?_)))
  refine(mj I B c0 e2 (h1'.next R2 x2 tk2) hV fun ρ3 news3 m3 h3 tk3 R3 x3 LO3=>ay ?_)
  exact P _ _ _ _ _ _ R3 ((x1.trans x2).trans x3) LO3 .next
 ·rw[hs]
  obtain⟨q1,q2⟩:=qE c0 hn
  rw[q1]at e2
  obtain⟨el,eh,hl⟩:=tr e2
  rw[el,eh]at P
  refine aj (ay ?_)
  show wpP fl _ _ (do rule "assign.swapped-stores";let items←unpackItems X names.length none;assignInOrder (names.reverse.map fun n=>bindName env n) items.reverse;pure .next) Q _
  refine aT (wpAny_rule ?_)
  refine aj (aL (g6 hq (by rw[qH q2,hl]) h.A.hd R1 hX fun ρ2 news2 Vs h2 tk2 R2 x2 hV=> ?_))
  have xx:=x1.trans x2
  refine aT (yX (qG q2) h.EO R2 (h.LO.mono xx) hV.reverse (by rw[List.length_reverse,List.length_reverse,hl]) fun ρ3 news3 m3 h3 tk3 R3 x3 LO3=>ay ?_)
  have hz:(fC its).reverse.zip vs.reverse=((fC its).zip vs).reverse:=yY hl
  rw[hz,kW (by rw[List.map_fst_zip (Nat.le_of_eq hl)];exact ff hnd)]at LO3
  exact P _ _ _ _ _ _ R3 (xx.trans x3) LO3 .next
inductive WL(w:World)(base h₀:Heap)(L:Addr)(ρ:Nat→Addr)(N:Nat)(news:Led)(cx:Cx)(env:Env)(lp:Nat→Loc→HH→Option (Fl×Loc×HH))(r:Fl×Loc×HH)(s:Shared)(kk:Nat)(s':Shared):Prop
 |mk (loc1:Loc)(H1:HH)(h1:Heap)(tk1:Nat)(m1:Str→Option Value)(news1:Led)(ρ1:Nat→Addr)(hs:s'={s with heap:=h1,toks:=tk1})(hc:lp kk loc1 H1=some r)(hR:Rel pw w base h₀ L h1 m1 news1 ρ1 H1)(hx:Ext ρ N news ρ1 H1.length news1)(hl:cL base ρ1 H1.length news1 cx env m1 loc1)
theorem yZ(T:ST pw w base fns n k)(S:BW pw w base fns n k){t:Expr}{a:List Stmt}{t':IE}{a':fY}{pos:Pos}(c0:bB k cx t t'=true)(c1:fD k cx a a'=true):kT pw w base fns n cx (.While t a [] pos) (.whil t' a'):=by
 intro fl loc H f loc' H' ev env A s h₀ L m news ρ Q h P
 rw[arm_exec_While]
 refine yx (aj (aG (kS rfl ?_)))
 refine kR rfl rfl (WL w base h₀ L ρ H.length news cx env (fS (fun l h=>bo (ao fns n) false t' l h) (fun l h=>bQ (ao fns n) false a' l h)) (f,loc',H') s) ?_ 64 ⟨loc,H,s.heap,s.toks,m,news,ρ,rfl,ev,h.R,.refl,h.LO⟩
 rintro kk s' ⟨loc1,H1,h1,tk1,m1,news1,ρ1,rfl,e,R1,x1,LO1⟩
 show wpP false _ A ((whileTurn t a [] env).onRaise (fun x=>do noteFrame x env;theTreesLotGoes x)) _ _
 refine cy ?_
 unfold whileTurn
 have h1':Here pw w base n A {s with heap:=h1,toks:=tk1} h₀ L m1 news1 ρ1 H1 cx env loc1:=⟨h.A,h.st,h.EO,R1,LO1⟩
 cases kk with
 |zero=>exact aV e
 |succ kk=>
  rcases dc e with⟨H2,e2,e⟩|⟨H2,e2,e⟩
  ·obtain⟨g,loc3,H3,e3,e⟩:=fu e
   refine aj (T c0 e2 h1' fun ρ2 news2 h2 tk2 R2 x2=> ?_)
   simp only[if_true]
   refine aj (S c1 e3 (h1'.next R2 x2 tk2) fun ρ3 news3 m3 h3 tk3 F R3 x3 LO3 hF=> ?_)
   have xx:=(x1.trans x2).trans x3
   cases hF with
   |next=>exact ay (.inl ⟨rfl,kk,Nat.lt_succ_self _,loc3,H3,h3,tk3,m3,news3,ρ3,rfl,e,R3,xx,LO3⟩)
   |cont=>exact ay (.inl ⟨rfl,kk,Nat.lt_succ_self _,loc3,H3,h3,tk3,m3,news3,ρ3,rfl,e,R3,xx,LO3⟩)
   |brk=>exact ay ((P.at e) _ _ _ _ _ _ R3 xx LO3 .next)
   |ret hv=>exact ay ((P.at e) _ _ _ _ _ _ R3 xx LO3 (.ret hv))
  ·replace P:=P.at e
   refine aj (T c0 e2 h1' fun ρ2 news2 h2 tk2 R2 x2=> ?_)
   simp only[Bool.false_eq_true,if_false]
   have xx:=x1.trans x2
   exact aj (ay (ay (P _ _ _ _ _ _ R2 xx (LO1.mono x2) .next)))
theorem qI{l:List String}{c:String}{b:Bool}{t:Sem Unit}{Q:Unit→Shared→Prop}(hn:l.contains c=false)(q:Q () s):wpAny (model pw w) A (if(l.contains c&&b)=true then t else pure ()) Q E s:=by rw[hn];exact wpAny_pure q
theorem tw{Ia a:Addr}{src:MV}{V:Value}{i:Nat}{o:Obj}(p:Pos){Q:Unit→Shared→Prop}(hg:s.heap.get? Ia=some o)(ho:cA src V i o)(q:Q () s):wpAny (model pw w) A (letOwnedTupleGo (.Tuple [] 0 p) (.ref Ia) (.ref a)) Q E s:=by
 refine wpAny_bind (wpAny_load hg ?_)
 clear hg
 obtain⟨cls,d,data,sl⟩:=o
 rcases ho.inv with⟨l,_,⟨h1,h2⟩|⟨h1,h2⟩⟩|⟨a,b,e⟩
 ·cases h1;cases h2;exact qI (by decide) q
 ·cases h1;cases h2;exact qI (by decide) q
 ·cases e;exact qI (by decide) q
theorem vS{target:Expr}{Ia:Addr}{src:MV}{V X:Value}{i:Nat}{o:Obj}{Q:Unit→Shared→Prop}(hg:s.heap.get? Ia=some o)(ho:cA src V i o)(q:Q () s):wpAny (model pw w) A (letOwnedTupleGo target (.ref Ia) X) Q E s:=by
 have go: ∀p,wpAny (model pw w) A (letOwnedTupleGo (.Tuple [] 0 p) (.ref Ia) X) Q E s:=fun p=>by
  cases X with
  |ref a=>exact tw p hg ho q
  |_=>exact wpAny_pure q
 clear hg ho
 cases target with
 |Tuple _ _ p=>exact go p
 |List _ p=>exact go p
 |_=>exact wpAny_pure q
theorem mq{bd:MV→Loc→Option Loc}{body:Loc→HH→Option (Fl×Loc×HH)}{src:MV}{kk i:Nat}{r:Fl×Loc×HH}(e:ek bd body src (kk+1) i loc H=some r):(itemAt H src i=some none∧some (.next,loc,H)=some r)∨
  dk fun x loc1=>bx (itemAt H src i=some (some x)) (bd x loc=some loc1) (mO (body loc1 H) (fun f loc2 H2=>match f with
    | .next=>ek bd body src kk (i+1) loc2 H2
    | .cont=>ek bd body src kk (i+1) loc2 H2
    | .brk=>some (.next,loc2,H2)
    | .ret v=>some (.ret v,loc2,H2))=some r):=by
 rcases kB e with⟨q,e⟩|⟨x,q,e⟩
 ·exact .inl ⟨q,e⟩
 ·obtain⟨loc1,q2,e⟩:=Option.bind_eq_some_iff.mp e
  exact .inr ⟨x,loc1,q,q2,e⟩
noncomputable def Al(cx:Cx)(target:Expr)(is:List Nat)(single:Bool):Prop:=(single=true∧iX fun x p i=>bx (target= .Name x p) (is=[i]) (eP cx x i=true))∨(single=false∧iX fun ts kk p=>target= .Tuple ts kk p∧j6 cx ts is=true)
theorem vT(I:SE pw w base fns n k)(B:Bs base fns){target:Expr}{is:List Nat}{single:Bool}{x:MV}{X:Value}{loc1:Loc}(ct:Al cx target is single)(e:eI is single x loc=some loc1){Q:Unit→Shared→Prop}
  (h:Here pw w base n A s h₀ L m news ρ H cx env loc)(hX:aY base ρ H.length news x X)(P:jG pw w base h₀ L cx env ρ news H s loc1 H (Q ())):wpP fl (model pw w) A (assign target env X) Q s:=by
 rcases ct with⟨es,y,p,i,et,ei,ho⟩|⟨es,ts,kk,p,et,hi⟩
 ·rw[es,ei]at e
  rw[et]
  obtain⟨v,us,e1,hb,e⟩:=jI (show fb [i] [x] loc=some loc1 from e)
  obtain⟨e1,e2⟩:=List.cons.inj e1
  rw[←e2,←e1]at e
  refine kN (t:= .loc i) (loc':=loc1) (H':=H) I B ho ?_ h hX P
  show(if Nat.blt i loc.length then some (loc.set i x,H)else none)=_
  rw[if_pos hb,Option.some.inj e]
 ·rw[es]at e
  rw[et]
  have key: ∃vs,x= .tup vs∧fb is vs loc=some loc1:=by
   cases x with
   |tup vs=>exact⟨vs,rfl,e⟩
   |_=>exact aV e
  obtain⟨vs,ex,e⟩:=key
  rw[ex]at hX
  have e2:=oX (n:=n) (fl:=fl) (H:=H) e
  have c2:=qB (k:=k) hi
  show wpP fl _ _ (do standAt p;unpack X (assignEach ts env)) _ _
  refine aj (aG ?_)
  unfold unpack
  obtain⟨q1,q2⟩:=jH (env:=env) c2 e2
  rw[q1]
  refine aj (aE (aL (g6 (xs:=vs) rfl q2 h.A.hd h.R hX fun ρ2 news2 Vs h2 tk2 R2 x2 hV=> ?_)))
  exact mj I B c2 e2 (h.next R2 x2 tk2) hV (P.next x2 _ _)
inductive FL(w:World)(base h₀:Heap)(L Ia:Addr)(ρ:Nat→Addr)(N:Nat)(news:Led)(cx:Cx)(env:Env)(src:MV)(X:Value)(lp:Nat→Nat→Loc→HH→Option (Fl×Loc×HH))(r:Fl×Loc×HH)(s:Shared)(kk:Nat)(s':Shared):Prop
 |mk (i:Nat)(loc1:Loc)(H3:HH)(h3:Heap)(tk3:Nat)(m3:Str→Option Value)(news3:Led)(ρ3:Nat→Addr)(o3:Obj)(hs:s'={s with heap:=h3,toks:=tk3})(hc:lp kk i loc1 H3=some r)(hR:Rel pw w base h₀ L h3 m3 news3 ρ3 H3)(hx:eL (· =Ia) ρ N news ρ3 H3.length news3)(hl:cL base ρ3 H3.length news3 cx env m3 loc1)(hm:(Ia,o3)∈news3)(hf:cK ρ3 H3.length Ia)(hi:cA src X i o3)
theorem Am(I:SE pw w base fns n k)(B:Bs base fns)(S:BW pw w base fns n k){target iter:Expr}{is:List Nat}{single:Bool}{a:List Stmt}{e':IE}{a':fY}{pos:Pos}(ct:Al cx target is single)(c0:bB k cx iter e'=true)(c1:fD k cx a a'=true):kT pw w base fns n cx (.For target iter a [] pos) (.forr is single e' a'):=by
 intro fl loc H f loc' H' ev env A s h₀ L m news ρ Q h P
 obtain⟨src,H1,e1,ev⟩:=aD ev
 rw[arm_exec_For]
 refine aj (aG (aj (I c0 e1 h fun ρ1 news1 X h1 tk1 R1 x1 hX=> ?_)))
 rw[g5 c0]
 refine aj (ay (aj (aG (aT (wpAny_holding ?_)))))
 obtain⟨it0,e0⟩: ∃r,itemAt H1 src 0=some r:=by
  rcases mq (kk:=63) ev with⟨e,_⟩|⟨x,_,e,_⟩<;>exact⟨_,e⟩
 refine kH e0 R1 hX fun oI hit hfr=> ?_
 have NI:News h₀ L (h1.push oI) ((h1.objs.size,oI)::news1):=R1.N.push R1.F oI hfr
 obtain⟨R2,x2,f2⟩:=R1.loose (R1.F.push oI) NI (d7 R1.N)
 have hIL:L≠h1.objs.size:=Ne.symm (NI _ (.head _)).2.1
 have hnew: ∀p∈news1,p.1≠h1.objs.size:=fun p hp=>Nat.ne_of_lt (Heap.lt_size (R1.N p hp).1)
 refine kS rfl ?_
 refine kR rfl rfl (FL w base h₀ L h1.objs.size ρ1 H1.length news1 cx env src X (ek (eI is single) (fun l h=>bQ (ao fns n) fl a' l h) src) (f,loc',H') s) ?_ 64
  ⟨0,loc,H1,_,_,m,_,ρ1,oI,rfl,ev,R2,x2.toB,h.LO.mono (x1.trans x2),.head _,f2,hit⟩
 rintro kk s' ⟨i,loc1,H3,h3,tk3,m3,news3,ρ3,o3,rfl,e,R3,x3,LO3,hm3,f3,hit3⟩
 show wpP fl _ A ((forTurn target (.ref h1.objs.size) a [] env).onRaise (fun x=>do noteFrame x env;theTreesLotGoes x)) _ _
 refine cy ?_
 unfold forTurn
 have hX3:aY base ρ3 H3.length news3 src X:=hX.mono0 (x3.to0 fun p hp z=>absurd z (hnew p hp))
 have hin3:=gn R3 hm3 hit3.inert
 refine aj (aG ?_)
 cases kk with
 |zero=>exact aV e
 |succ kk=>
  rcases mq e with⟨hi,e⟩|⟨x,loc5,hi,hb,e⟩
  ·replace P:=P.at e
   refine aj (cy (aL (qx hi h.A.hd R3 hX3 hm3 hit3 fun h4 hk4=> ?_)))
   refine ay (.inr ⟨rfl,rfl,bJ ?_⟩)
   show wpP fl _ A (do return Fin.done (←(execs [] env).onRaise (fun x=>do noteFrame x env;theTreesLotGoes x))) _ _
   refine aj (cy (ay (ay ?_)))
   obtain⟨R4,x4⟩:=R3.drop hm3 f3 hit3.inert
   have R5:=R4.but (h':=h4) (fun p hp=>(cF.mp hp).2) hIL (R3.N _ hm3).2.2 hk4
   exact P _ _ _ _ _ _ R5 (x1.trans ((x3.trans x4).ext hnew)) (LO3.monoB x4 hin3) .next
  ·refine aj (cy (aL (nv hi R3 hX3 hm3 hit3 fun Y h4 o4 tk4 hY hit4 hs4 hg4=> ?_)))
   obtain⟨R4,x4⟩:=R3.swap hm3 f3 hit3.inert hs4 hg4
   have hm4:(h1.objs.size,o4)∈cW news3 h1.objs.size o4:=cD hm3
   have hY4:=hY.mono0 (x4.to0 hin3)
   have h4':Here pw w base n A {s with heap:=h4,toks:=tk4} h₀ L m3 (cW news3 h1.objs.size o4) ρ3 H3 cx env loc1:=⟨h.A,h.st,h.EO,R4,LO3.monoB x4 hin3⟩
   dsimp only
   refine aT (vS hg4 hit4 ?_)
   obtain⟨g,loc6,H6,e6,e⟩:=fu e
   refine aj (vT I B ct hb h4' hY4 fun ρ5 news5 m5 h5 tk5 R5 x5 LO5=> ?_)
   refine aj (S c1 e6 ⟨h.A,h.st,h.EO,R5,LO5⟩ fun ρ6 news6 m6 h6 tk6 F R6 x6 LO6 hF=> ?_)
   have x46:=x5.trans x6
   have xall:=(x3.trans x4).trans x46.toB
   obtain⟨z1,z2⟩:=x46.keep _ hm4 f3
   cases hF with
   |next=>exact ay (.inl ⟨rfl,kk,Nat.lt_succ_self _,i+1,loc6,H6,h6,tk6,m6,news6,ρ6,o4,rfl,e,R6,xall,LO6,z1,z2,hit4⟩)
   |cont=>exact ay (.inl ⟨rfl,kk,Nat.lt_succ_self _,i+1,loc6,H6,h6,tk6,m6,news6,ρ6,o4,rfl,e,R6,xall,LO6,z1,z2,hit4⟩)
   |brk=>exact ay ((P.at e) _ _ _ _ _ _ R6 (x1.trans (xall.ext hnew)) LO6 .next)
   |ret hv=>exact ay ((P.at e) _ _ _ _ _ _ R6 (x1.trans (xall.ext hnew)) LO6 (.ret hv))
theorem vU{e v:Expr}{l:Nat}{t:IT}(ct:tZ k cx e t=true)(EO:dJ cx L env)(hn: ∀x p,e= .Name x p→ ∀elt gens sc p',v= .ListComp elt gens sc p'→(sc.names.any fun(m,k)=>m==x&&(k== .local||k== .cell))=false)(cv: ∃ie,bB k cx v ie=true):
  swapsWithSole [e] v l env=pure false∨F6 fun x p elt gens sc p'=>bx (e= .Name x p) (v= .ListComp elt gens sc p') (swapsWith v (some e) l env=pure true):=by
 cases hv:fB v with
 |false=>exact .inl (kX hv)
 |true=>
  have hl:jM fun elt gens sc p'=>v= .ListComp elt gens sc p':=by
   obtain⟨ie,c⟩:=cv
   cases v with
   |ListComp=>exact⟨_,_,_,_,rfl⟩
   |SetComp=>
    cases k with
    |zero=>exact bF c
    |succ k=>exact bF c
   |DictComp=>
    cases k with
    |zero=>exact bF c
    |succ k=>exact bF c
   |_=>exact bF hv
  obtain⟨elt,gens,sc,p',rfl⟩:=hl
  cases gB ct with
  |attr=>exact .inl rfl
  |sub=>exact .inl rfl
  | @loc x p i ho=>
   have q:=hn x p rfl elt gens sc p' rfl
   show(pure _:Sem Bool)=_∨_
   cases hb:(env.blockKind== .function&&env.kindOf x==some .local&&p.line==p'.line&& !(sc.names.any fun(n,k)=>n==x&&(k== .local||k== .cell)))with
   |false=>
    refine .inl ?_
    show(pure (env.blockKind== .function&&env.kindOf x==some .local&&p.line==p'.line&& !(sc.names.any fun(n,k)=>n==x&&(k== .local||k== .cell))):Sem Bool)=_
    rw[hb]
   |true=>
    refine .inr ⟨x,p,elt,gens,sc,p',rfl,rfl,?_⟩
    show(pure (env.blockKind== .function&&env.kindOf x==some .local&&p.line==p'.line&& !(sc.names.any fun(n,k)=>n==x&&(k== .local||k== .cell))):Sem Bool)=_
    rw[hb]
end
section
variable{w:World}{K:Frag}{base:Heap}{n k:Nat}
theorem vV(B:Bs base fns)(C:eH pw w base fns n){cx:Cx}{t v:Expr}{p:Pos}{it:IT}{e:IE}(c0:tZ k cx t it=true)(c1:bB k cx v e=true)(c2:qb t v=true):kT pw w base fns n cx (.Assign [t] v p) (.assign it e):=by
 intro fl loc H f loc' H' ev env A s h₀ L m news ρ Q h P
 rcases vU (l:=p.line) c0 h.EO (fun x p q elt gens sc p' q'=>by
  rw[q,q']at c2
  exact iD c2) ⟨e,c1⟩with hs|⟨x,p,elt,gens,sc,p',et,ev',hs⟩
 ·exact vQ ((iK B C k).1 k (Nat.le_refl _)) B c0 c1 hs ev h P
 ·rw[ev']at c1 hs⊢
  rw[et]at c0 hs⊢
  cases k with
  |zero=>exact bF c1
  |succ k=>
   obtain⟨ih',T',_⟩:=iK B C k
   cases nj c1 with
   |comp d0 d1 d2 d3=>
    cases gB c0 with
    |loc ho=>exact lJ (ih' k (Nat.le_refl _)) T' (mf d0) d1 d2 d3 ho hs ev h P
theorem sS(B:Bs base fns)(C:eH pw w base fns n)(S:BW pw w base fns n k):SS pw w base fns n (k+1):=by
 obtain⟨ih,T,J,Jb,Jt,O⟩:=iK B C k
 have I:SE pw w base fns n k:=ih k (Nat.le_refl _)
 intro cx st is c
 have cq:=yK c
 clear c ih J Jb Jt O
 cases cq with
 |assignT c0 c1 c2 c3 c4 c5=>exact tv I B c0 c1 c2 c3 c4
 |assign c0 c1 c2=>exact vV B C c0 c1 c2
 |augL c0 co c1=>exact BY I c0 co c1
 |augA hj c0 co c1=>exact BZ I B hj c0 co c1
 |ite c0 c1 c2=>exact Hb T S c0 c1 c2
 |whil c0 c1=>exact yZ T S c0 c1
 |for1 c0 c1 c2=>exact Am I B S (.inl ⟨rfl,_,_,_,rfl,rfl,c0⟩) c1 c2
 |forN c0 c1 c2=>exact Am I B S (.inr ⟨rfl,_,_,_,rfl,c0⟩) c1 c2
 |ret c=>exact EH I c
 |ret0=>exact BX
 |ex c0 c1=>exact Hc I c0 c1
 |cont=>
  intro fl loc H f loc' H' ev env A s h₀ L m news ρ Q h P
  replace P:=P.at (g:= .cont) (loc1:=loc) (H1:=H) ev
  rw[arm_exec_Continue]
  exact aj (aG (ay (P _ _ _ _ _ _ h.R .refl h.LO .cont)))
 |brk=>
  intro fl loc H f loc' H' ev env A s h₀ L m news ρ Q h P
  replace P:=P.at (g:= .brk) (loc1:=loc) (H1:=H) ev
  rw[arm_exec_Break]
  exact aj (aG (ay (P _ _ _ _ _ _ h.R .refl h.LO .brk)))
 |bad=>intro fl loc H f loc' H' ev;exact aV ev
theorem vW{cx:Cx}{es:List Stmt}{ies:fY}(h:fD (k+1) cx es ies=true):(es=[]∧ies= .nil)∨jM fun e r a q=>cC (es=e::r) (ies= .cons a q) (Dd k cx e a=true) (fD k cx r q=true):=by
 cases es with
 |nil=>
  cases ies with
  |nil=>exact .inl ⟨rfl,rfl⟩
  |cons=>exact bF h
 |cons e r=>
  cases ies with
  |nil=>exact bF h
  |cons a q=>exact .inr ⟨e,r,a,q,rfl,rfl,(dI h).1,(dI h).2⟩
set_option backward.match.sparseCases true in
theorem Ir(S:SS pw w base fns n k)(J:BW pw w base fns n k):BW pw w base fns n (k+1):=by
 intro cx sts iss c fl loc H f loc' H' ev env A s h₀ L m news ρ Q h P
 rcases vW c with⟨e1,e2⟩|⟨x,r,a,q,e1,e2,c1,c2⟩
 ·rw[e2]at ev
  replace P:=P.at (g:= .next) (loc1:=loc) (H1:=H) ev
  rw[e1]
  exact ay (P _ _ _ _ _ _ h.R .refl h.LO .next)
 ·rw[e2]at ev
  rw[e1]
  obtain⟨g,loc1,H1,e3,ev⟩:=fu ev
  show wpP fl _ _ (do match←exec x env with| .next=>execs r env|f=>pure f) _ _
  refine aj (S c1 e3 h fun ρ1 news1 m1 h1 tk1 F R1 x1 LO1 hF=> ?_)
  cases hF with
  |next=>exact J c2 ev ⟨h.A,h.st,h.EO,R1,LO1⟩ (P.next x1 _ _)
  |brk=>exact ay ((P.at ev) _ _ _ _ _ _ R1 x1 LO1 .brk)
  |cont=>exact ay ((P.at ev) _ _ _ _ _ _ R1 x1 LO1 .cont)
  |ret hv=>exact ay ((P.at ev) _ _ _ _ _ _ R1 x1 LO1 (.ret hv))
theorem kY(B:Bs base fns)(C:eH pw w base fns n): ∀k,SS pw w base fns n k∧BW pw w base fns n k
 |0=>by
  refine⟨?_,?_⟩
  ·intro cx st is c;exact bF c
  ·intro cx st is c;exact bF c
 |k+1=>by
  obtain⟨S,J⟩:=kY B C k
  exact⟨sS B C J,Ir S J⟩
end
theorem lookup_isSome{α:Type}{n:Str}: ∀{l:List (Str×α)},n∈l.map (·.1)→(l.lookup n).isSome=true
 |[],h=>nomatch h
 |(k,v)::r,h=>by
  rw[List.lookup_cons]
  cases e:n==k with
  |true=>rfl
  |false=>
   rcases List.mem_cons.mp h with rfl|h
   ·rw[beq_self_eq_true]at e;cases e
   ·exact lookup_isSome h
theorem lookup_none{α:Type}{n:Str}: ∀{l:List (Str×α)},n∉l.map (·.1)→l.lookup n=none
 |[],_=>rfl
 |(k,v)::r,h=>by
  rw[List.lookup_cons]
  have:(n==k)=false:=beq_eq_false_iff_ne.mpr fun e=>h (by rw[e];exact .head _)
  rw[this]
  exact lookup_none fun hm=>h (.tail _ hm)
noncomputable abbrev mr:Str×Value→List (Str×Value)→Sem (ForInStep (List (Str×Value))):=fun x s=>
 if(List.lookup x.fst s).isNone=true then pure (ForInStep.yield (s++[(x.fst,x.snd)]))else pure (ForInStep.yield s)
theorem mu: ∀{l r s:List (Str×Value)},(∀p∈l,(s.lookup p.1).isSome=true)→forIn (l++r) s mr=forIn r s mr
 |[],_,_,_=>rfl
 |p::l,r,s,h=>by
  rw[List.cons_append,List.forIn_cons]
  have:(List.lookup p.1 s).isNone=false:=by have:=h p (.head _);cases e:List.lookup p.1 s with|none=>rw[e]at this;cases this|some _=>rfl
  unfold mr
  rw[this]
  simp only[Bool.false_eq_true,if_false,pure_bind]
  exact mu fun q hq=>h q (.tail _ hq)
theorem o5: ∀{l s:List (Str×Value)},(l.map (·.1)).Nodup→(∀p∈l,p.1∉s.map (·.1))→forIn l s mr=pure (s++l)
 |[],s,_,_=>by rw[List.append_nil];rfl
 |p::l,s,nd,h=>by
  rw[List.forIn_cons]
  have:(List.lookup p.1 s).isNone=true:=by rw[lookup_none (h p (.head _))];rfl
  unfold mr
  rw[this]
  simp only[if_true,pure_bind]
  obtain⟨n1,n2⟩:=List.nodup_cons.mp nd
  have:=o5 (l:=l) (s:=s++[(p.1,p.2)]) n2 fun q hq hm=>by
   rw[List.map_append,List.mem_append]at hm
   rcases hm with hm|hm
   ·exact h q (.tail _ hq) hm
   ·have e:q.1=p.1:=by simpa using hm
    exact n1 (List.mem_map.mpr ⟨q,hq,e⟩)
  rw[List.append_assoc]at this
  exact this
theorem mv: ∀{ps:List Str}{W:List Value},ps.Nodup→ps.length=W.length→ps.filterMap (fun n=>Option.map (fun x=>(n,x)) (List.lookup n (ps.zip W)))=ps.zip W
 |[],[],_,_=>rfl
 |[],_::_,_,h=>by cases h
 |_::_,[],_,h=>by cases h
 |n::ps,v::W,nd,h=>by
  obtain⟨n1,n2⟩:=List.nodup_cons.mp nd
  rw[List.zip_cons_cons,List.filterMap_cons]
  have e1:List.lookup n ((n,v)::ps.zip W)=some v:=by rw[List.lookup_cons,beq_self_eq_true]
  rw[e1]
  show(n,v)::_=_
  congr 1
  have ih:=mv (ps:=ps) (W:=W) n2 (by simpa using h)
  refine Eq.trans ?_ ih
  have key: ∀l:List Str,(∀m∈l,m≠n)→l.filterMap (fun m=>Option.map (fun x=>(m,x)) (List.lookup m ((n,v)::ps.zip W)))=l.filterMap (fun m=>Option.map (fun x=>(m,x)) (List.lookup m (ps.zip W))):=by
   intro l
   induction l with
   |nil=>intro _;rfl
   |cons a l ih=>
    intro hl
    have ea:(a==n)=false:=beq_eq_false_iff_ne.mpr (hl a (.head _))
    rw[List.filterMap_cons,List.filterMap_cons,ih fun m hm=>hl m (.tail _ hm),List.lookup_cons,ea]
  exact key ps fun m hm e=>n1 (e▸hm)
theorem jU{α β:Type}: ∀(a:List α)(b:List β),(a.zip b).map (·.1)=a.take b.length
 |[],b=>by cases b<;>rfl
 |x::a,[]=>rfl
 |x::a,y::b=>by rw[List.zip_cons_cons,List.map_cons,List.length_cons,List.take_succ_cons,jU a b]
theorem tx{ps:List Str}{Vs D:List Value}(nd:ps.Nodup)(h1:Vs.length≤ps.length)(h2:D.length≤ps.length)(h3:ps.length - D.length≤Vs.length):
  ((ps.take (ps.length - D.length)).filter fun n=>(List.lookup n (ps.zip Vs)).isNone)=[]∧
  forIn ((ps.drop (ps.length - D.length)).zip D) (ps.zip Vs) mr=pure (ps.zip (Vs++D.drop (Vs.length - (ps.length - D.length)))):=by
 have hk:(ps.zip Vs).map (·.1)=ps.take Vs.length:=jU _ _
 have hsome: ∀n∈ps.take Vs.length,(List.lookup n (ps.zip Vs)).isSome=true:=fun n hn=>lookup_isSome (by rw[hk];exact hn)
 refine⟨List.filter_eq_nil_iff.mpr fun n hn=> ?_,?_⟩
 ·have hn':n∈ps.take Vs.length:=List.mem_of_mem_take (i:=ps.length - D.length) (by rw[List.take_take,Nat.min_eq_left h3];exact hn)
  have:=hsome n hn'
  cases e:List.lookup n (ps.zip Vs)with
  |none=>rw[e]at this;cases this
  |some _=>exact Bool.false_ne_true
 ·generalize hf:ps.length - D.length=f at*
  have e1:(ps.drop f).zip D=((ps.drop f).zip D).take (Vs.length - f)++((ps.drop f).zip D).drop (Vs.length - f):=(List.take_append_drop _ _).symm
  have e2:((ps.drop f).zip D).drop (Vs.length - f)=(ps.drop Vs.length).zip (D.drop (Vs.length - f)):=by
   rw[List.zip_eq_zipWith,List.drop_zipWith,List.drop_drop,←List.zip_eq_zipWith,Nat.add_sub_of_le h3]
  rw[e1,e2,mu,o5]
  ·congr 1
   have e3:ps.zip Vs=(ps.take Vs.length).zip Vs:=by
    have:=List.zip_append (l₁:=ps.take Vs.length) (r₁:=ps.drop Vs.length) (l₂:=Vs) (r₂:=[]) (by rw[List.length_take];exact Nat.min_eq_left h1)
    rw[List.take_append_drop,List.append_nil,List.zip_nil_right,List.append_nil]at this
    exact this
   rw[e3,←List.zip_append (by rw[List.length_take];exact Nat.min_eq_left h1),List.take_append_drop]
  ·have:((ps.drop Vs.length).zip (D.drop (Vs.length - f))).map (·.1)=(ps.drop Vs.length).take (D.drop (Vs.length - f)).length:=jU _ _
   rw[this]
   exact(((List.take_sublist _ _).trans (List.drop_sublist _ _)).nodup nd)
  ·intro p hp hm
   rw[hk]at hm
   have hp1:p.1∈ps.drop Vs.length:=(List.of_mem_zip hp).1
   have:=List.take_append_drop Vs.length ps
   rw[←this]at nd
   exact(List.nodup_append.mp nd).2.2 _ hm _ hp1 rfl
  ·intro p hp
   refine hsome _ ?_
   obtain⟨i,hi,e⟩:=List.mem_iff_getElem.mp hp
   have hi1:i<Vs.length - f∧i<((ps.drop f).zip D).length:=by rw[List.length_take]at hi;exact Nat.lt_min.mp hi
   rw[List.getElem_take,List.getElem_zip]at e
   rw[←e]
   have hl:i<(ps.drop f).length:=by have:=hi1.2;rw[List.length_zip]at this;exact(Nat.lt_min.mp this).1
   rw[List.getElem_drop]
   have hv:f+i<Vs.length:=Nat.add_lt_of_lt_sub' hi1.1
   have hlt:f+i<(ps.take Vs.length).length:=by rw[List.length_take];exact Nat.lt_min.mpr ⟨hv,Nat.lt_of_lt_of_le hv h1⟩
   have:(ps.take Vs.length)[f+i]=ps[f+i]'(Nat.lt_of_lt_of_le hv h1):=List.getElem_take
   rw[←this]
   exact List.getElem_mem hlt
theorem B1 {p v d:Nat}(h1:v≤p)(h2:d≤p)(h3:p - d≤v):p=v+(d - (v - (p - d))):=by
 obtain⟨e,rfl⟩:=Nat.le.dest h2
 rw[Nat.add_sub_cancel_left]at h3⊢
 obtain⟨g,rfl⟩:=Nat.le.dest h3
 rw[Nat.add_sub_cancel_left,Nat.add_assoc,Nat.add_sub_of_le (Nat.le_of_add_le_add_left (Nat.le_trans h1 (Nat.le_of_eq (Nat.add_comm d e)))),Nat.add_comm]
theorem vX{α:Type}{M:Model}{A:Around}{b:Bool}{x y:Sem α}{Q:α→Shared→Prop}{E:Value→Shared→Prop}{s:Shared}(h:b=false)(k:wpAny M A y Q E s):wpAny M A (if b=true then x else y) Q E s:=by rw[h];exact k
theorem vY{s:Shared}{fd:FuncData}{as:List PySem.Arg}{ds:List Expr}{Vs D:List Value}(hp:fd.params=⟨[],as,none,[],[],none,ds⟩)(nd:(as.map (·.arg)).Nodup)
  (h1:Vs.length≤(as.map (·.arg)).length)(h2:D.length≤(as.map (·.arg)).length)(h3:(as.map (·.arg)).length - D.length≤Vs.length)
  (hd:(fd.defaults= .none∧D=[])∨jM fun T o items n=>cC (fd.defaults= .ref T) (s.heap.get? T=some o) (o.data= .seq items n) (D=items.toList)):
  BindsTo s fd ⟨Vs,[]⟩ ((as.map (·.arg)).zip (Vs++D.drop (Vs.length - ((as.map (·.arg)).length - D.length)))):=by
 intro M A E Q hq
 obtain⟨t1,t2⟩:=tx nd h1 h2 h3
 have hbz:=mv (ps:=as.map (·.arg)) (W:=Vs++D.drop (Vs.length - ((as.map (·.arg)).length - D.length))) nd (by rw[List.length_append,List.length_drop];exact B1 h1 h2 h3)
 have hdrop:D.drop (D.length - (as.map (·.arg)).length)=D:=by rw[Nat.sub_eq_zero_of_le h2];rfl
 rw[←hdrop]at t1 t2
 unfold bindArgs
 rw[hp]
 refine wpAny_bind (wpAny_pure ?_)
 refine wpAny_bind (wpAny_mono (Q:=fun a s'=>(a.getD #[]).toList=D∧s'=s) ?_ (fun a s' h=> ?_) fun _ _ e=>e)
 ·rcases hd with⟨e,e2⟩|⟨T,o,items,n,e,ho,hs,e2⟩
  ·rw[e,e2];exact wpAny_of_eq (a:=none) rfl ⟨rfl,rfl⟩
  ·rw[e];exact wpAny_seqItems ho hs ⟨e2.symm,rfl⟩
 ·rw[h.2,h.1]
  refine vX (congrArg (· &&true) (decide_eq_false (Nat.not_lt.mpr h1))) ?_
  refine vX (congrArg (fun l:List Str=> !l.isEmpty) t1) ?_
  refine wpAny_bind (wpAny_of_eq t2 ?_)
  refine wpAny_bind (wpAny_pure ?_)
  refine vX rfl (wpAny_pure ?_)
  rw[←hbz,←hdrop]at hq
  exact(congrArg (fun l=>Q (List.filterMap _ l) s) (List.append_nil _)).mpr hq
noncomputable def nA(pw:Program)(w:World)(base:Heap)(n:Nat):Prop:=
 ∀(fl:Bool)(args:List MV)(H:HH)(v:MV),mP args=some v→
  ∀(A:Around)(s:Shared)(h₀:Heap)(L:Addr)(m:Str→Option Value)(news:Led)(ρ:Nat→Addr)(Vs:List Value)(Q:Value→Shared→Prop),
   yM A n→bG base h₀→Rel pw w base h₀ L s.heap m news ρ H→br base ρ H.length news args Vs→bh pw w base h₀ L m ρ news H s v H Q→cV fl (model pw w) A (.call (.ref 741) ⟨Vs,[]⟩) (rI Q) s
theorem jh{kd:Str→Option NameKind}{x:Str}: ∀{binds:List (Str×Value)}{m:Str→Option Value},x∉binds.map (·.1)→bindL kd binds m x=m x
 |[],_,_=>rfl
 |(n,v)::r,m,h=>by
  unfold bindL
  rw[jh fun hm=>h (.tail _ hm)]
  split
  ·have:x≠n:=fun e=>h (by rw[e];exact .head _)
   simp[this]
  ·rfl
theorem mw{kd:Str→Option NameKind}{x:Str}{V:Value}(hk:kd x=some .local): ∀{binds:List (Str×Value)}{m:Str→Option Value},(binds.map (·.1)).Nodup→(x,V)∈binds→bindL kd binds m x=some V
 |[],_,_,h=>nomatch h
 |(n,v)::r,m,nd,h=>by
  obtain⟨n1,n2⟩:=List.nodup_cons.mp nd
  unfold bindL
  rcases List.mem_cons.mp h with e|h
  ·cases e
   rw[if_pos hk,jh n1]
   simp
  ·exact mw hk n2 h
theorem my{kd:Str→Option NameKind}{x:Str}: ∀{binds:List (Str×Value)}{m:Str→Option Value},x∉binds.map (·.1)→bindC kd binds m x=m x
 |[],_,_=>rfl
 |(n,v)::r,m,h=>by
  unfold bindC
  rw[my fun hm=>h (.tail _ hm)]
  split
  ·rfl
  ·have:x≠n:=fun e=>h (by rw[e];exact .head _)
   simp[this]
theorem mz{kd:Str→Option NameKind}{x:Str}{V:Value}(hk:kd x≠some .local): ∀{binds:List (Str×Value)}{m:Str→Option Value},(binds.map (·.1)).Nodup→(x,V)∈binds→bindC kd binds m x=some V
 |[],_,_,h=>nomatch h
 |(n,v)::r,m,nd,h=>by
  obtain⟨n1,n2⟩:=List.nodup_cons.mp nd
  unfold bindC
  rcases List.mem_cons.mp h with e|h
  ·cases e
   rw[if_neg hk,my n1]
   simp
  ·exact mz hk n2 h
set_option tactic.hygienic true in
theorem ef{x:Str}: ∀{names:List (Str×NameKind)}{n:Nat}{acc:List (Str×Addr)},((x,NameKind.cell)∈names∨x∈acc.map (·.1))→x∈(cellsFrom n names acc).map (·.1)
 |[],_,_,h=>by rcases h with h|h;cases h;exact h
 |(y,kd)::r,n,acc,h=>by
  unfold cellsFrom
  split
  ·rename_i hk
   refine ef ?_
   rcases h with h|h
   ·rcases List.mem_cons.mp h with e|h
    ·cases e;exact .inr (.head _)
    ·exact .inl h
   ·exact .inr (.tail _ h)
  ·rename_i hk
   refine ef ?_
   rcases h with h|h
   ·rcases List.mem_cons.mp h with e|h
    ·cases e;exact absurd rfl hk
    ·exact .inl h
   ·exact .inr h
section
variable{w:World}{base h₀ h h':Heap}{L:Addr}{m:Str→Option Value}{news:Led}{ρ:Nat→Addr}{H:HH}
theorem ji(R:Rel pw w base h₀ L h m news ρ H){cs:List (Str×Addr)}{cm:Str→Option Value}{lo:Addr}(hlo: ∀c o,(c,o)∈news→c≤lo)(hL:L≤lo)(h0:h₀.objs.size≤lo)(hc: ∀n c,cs.lookup n=some c→h.IsCell c (cm n)∧lo<c):
  ∀l:List Str,∃news',bx (Rel pw w base h₀ L h m news' ρ H) (Ext ρ H.length news ρ H.length news') (∀n∈l,∀c,cs.lookup n=some c→ ∃o,bx ((c,o)∈news') (cK ρ H.length c) (o.data= .cell (cm n)))
 |[]=>⟨news,R,.refl,nofun⟩
 |n::l=>by
  obtain⟨news1,R1,x1,q1⟩:=ji R hlo hL h0 hc l
  cases e:cs.lookup n with
  |none=>
   refine⟨news1,R1,x1,fun n' hn c hc'=> ?_⟩
   rcases List.mem_cons.mp hn with rfl|hn
   ·rw[e]at hc';cases hc'
   ·exact q1 n' hn c hc'
  |some c=>
   obtain⟨⟨o,ho,hd⟩,hlt⟩:=hc n c e
   have hf:cK ρ H.length c:=fun i hi z=>by
    obtain⟨ob,hm,_⟩:=R.cell i _ (List.getElem?_eq_getElem hi)
    have:=hlo _ _ hm
    rw[z]at this
    exact absurd hlt (Nat.not_lt.mpr this)
   by_cases hm:c∈news1.map (·.1)
   ·obtain⟨p,hp,z⟩:=List.mem_map.mp hm
    obtain⟨c',o'⟩:=p
    have z:c'=c:=z
    subst z
    have:=(R1.N _ hp).1
    rw[ho]at this
    cases this
    refine⟨news1,R1,x1,fun n' hn c hc'=> ?_⟩
    rcases List.mem_cons.mp hn with rfl|hn
    ·rw[e]at hc';cases hc';exact⟨_,hp,hf,hd⟩
    ·exact q1 n' hn c hc'
   ·have N':News h₀ L h ((c,o)::news1):=fun p hp=>by
     rcases List.mem_cons.mp hp with rfl|hp
     ·exact⟨ho,Ne.symm (Nat.ne_of_lt (Nat.lt_of_le_of_lt hL hlt)),Heap.get?_none_of_le (Nat.le_of_lt (Nat.lt_of_le_of_lt h0 hlt))⟩
     ·exact R1.N p hp
    obtain⟨R2,x2,f2⟩:=R1.loose R1.F N' hm
    refine⟨_,R2,x1.trans x2,fun n' hn c' hc'=> ?_⟩
    rcases List.mem_cons.mp hn with rfl|hn
    ·rw[e]at hc';cases hc';exact⟨_,.head _,f2,hd⟩
    ·obtain⟨o',r1,r2,r3⟩:=q1 n' hn c' hc'
     exact⟨o',.tail _ r1,r2,r3⟩
end
section
variable{w:World}{K:Frag}{base:Heap}{n:Nat}
structure Gb(fd:FuncData)(F:Fn)(as:List PySem.Arg)(ds:List Expr)(body:List Stmt):Prop where
 bod:fd.body= .stmts body
 params:fd.params=⟨[],as,none,[],[],none,ds⟩
 kind:fd.scope.kind= .function
 co:fd.scope.isCoroutine=false
 gen:fd.scope.isGenerator=false
 cl:fd.closure=[]
 nd:(cb (as.map (·.arg)) fd.scope.names).Nodup
 np:F.np=(as.map (·.arg)).length
 nl:F.nl=(cb (as.map (·.arg)) fd.scope.names).length
 dfl:F.dfl.length≤F.np
 psk: ∀x∈as.map (·.arg),fd.scope.names.lookup x=some .local∨fd.scope.names.lookup x=some .cell
 nms: ∀p∈fd.scope.names,(p.2= .cell→p.1∈as.map (·.arg))∧p.2≠ .free
 nnd:(fd.scope.names.map (·.1)).Nodup
 ck:fD 100 ⟨cb (as.map (·.arg)) fd.scope.names,fd.scope.names⟩ body F.body=true
theorem tA{o:Option NameKind}(h:uk o=true):o=some .local∨o=some .cell:=by
 cases o with
 |none=>exact bF h
 |some k=>
  cases k with
  | «local» =>exact .inl rfl
  |cell=>exact .inr rfl
  |_=>exact bF h
theorem B2 {k:NameKind}{b:Bool}(h:(!ru k&&(!rv k||b))=true):(k= .cell→b=true)∧k≠ .free:=by
 refine⟨fun e=> ?_,fun e=> ?_⟩
 ·rw[e]at h;exact h
 ·rw[e]at h;exact bF h
theorem vZ{fd:FuncData}{F:Fn}(h:F7 fd F=true): ∃body,Gb fd F fd.params.args fd.params.defaults body:=by
 unfold F7 at h
 cases e:z7 fd.body with
 |none=>rw[e]at h;exact bF h
 |some body=>
  rw[e]at h
  dsimp only at h
  have hb:fd.body= .stmts body:=by
   generalize fd.body=b at e
   cases b with
   |stmts l=>rw[Option.some.inj e]
   |expr=>exact aV e
  have h2:=a2 (a2 h)
  have h3:=a2 (a2 (a2 h2))
  have h4:=a2 (a2 (a2 h3))
  exact⟨body,hb,iE (a1 h),beq_iff_eq.mp (a1 (a2 h)),iD (a1 h2),iD (a1 (a2 h2)),gH (a2 (a2 h2)),de (a1 h3),Nat.eq_of_beq_eq_true (a1 (a2 h3)),Nat.eq_of_beq_eq_true (a1 (a2 (a2 h3))),Nat.le_of_ble_eq_true (a1 h4),
   fun x hx=>tA (List.all_eq_true.mp (a1 (a2 h4)) x hx),fun p hp=>have q:=B2 (List.all_eq_true.mp (a1 (a2 (a2 h4))) p hp);⟨fun e=>List.contains_iff_mem.mp (q.1 e),q.2⟩,de (a1 (a2 (a2 (a2 h4)))),a2 (a2 (a2 (a2 h4)))⟩
theorem br.drop {ρ:Nat→Addr}{N:Nat}{news:Led}: ∀(k:Nat){vs:List MV}{Vs:List Value},br base ρ N news vs Vs→br base ρ N news (vs.drop k) (Vs.drop k):=by
 intro k
 induction k with
 |zero=>intro vs Vs h;exact h
 |succ k ih=>
  intro vs Vs h
  cases vs with
  |nil=>rw[h.nilInv];exact .nil
  |cons v r=>
   obtain⟨V,Ws,e,_,h⟩:=h.consInv
   rw[e]
   exact ih h
theorem y7 {V:Value}{dfl:List MV}(h:lX K V dfl){hh:Heap}(X:K.In hh): ∃D:List Value,bx (D.length=dfl.length) (∀ρ N news,br base ρ N news dfl D) ((V= .none∧D=[])∨jM fun T o items n=>cC (V= .ref T) (hh.get? T=some o) (o.data= .seq items n) (D=items.toList)):=by
 cases h with
 |none=>exact⟨[],rfl,fun _ _ _=> .nil,.inl ⟨rfl,rfl⟩⟩
 | @some T o items nn dfl h1 h2 h3=>exact⟨items.toList,(h3 base (fun _=>0) 0 []).length,fun ρ N news=>h3 base ρ N news,.inr ⟨T,o,items,nn,rfl,X T o h1,h2,rfl⟩⟩
theorem B5 {b:Bool}{x y:Str}(h:(if b then some x else none)=some y):b=true∧x=y:=by
 cases b with
 |true=>exact⟨rfl,Option.some.inj h⟩
 |false=>exact aV h
theorem wa{a b c:Nat}(h:a - b≤c):a - c≤b:=by omega
theorem Hd{a d n:Nat}(h1:a≤n)(h2:n - a≤d)(h3:d≤n):a - (n - d)=d - (n - a):=(Nat.sub_sub_right a h3).trans ((congrArg (· - n) (Nat.add_comm a d)).trans (Nat.sub_sub_right d h1).symm)
theorem He{a d n:Nat}(h1:a≤n)(h2:n - a≤d)(h3:d≤n):a+(d - (d - (n - a)))=n:=(congrArg (a+ ·) (Nat.sub_sub_self h2)).trans (Nat.add_sub_of_le h1)
theorem mA{s:Shared}{fd:FuncData}{F:Fn}{as:List PySem.Arg}{ds:List Expr}{body:List Stmt}(S:Gb fd F as ds body)(X:K.In s.heap)(hd:lX K fd.defaults F.dfl){args:List MV}{Vs:List Value}(hb1:args.length≤F.np)(hb2:F.np - args.length≤F.dfl.length)
  {ρ:Nat→Addr}{N:Nat}{news:Led}(hV:br base ρ N news args Vs):
  ∃WV,bx (BindsTo s fd ⟨Vs,[]⟩ ((as.map (·.arg)).zip WV)) (br base ρ N news (args++F.dfl.drop (F.dfl.length - (F.np - args.length))) WV) (WV.length=(as.map (·.arg)).length):=by
 obtain⟨D,q1,q2,q3⟩:=y7 (base:=base) hd X
 have hl:=hV.length
 have h1:=S.np
 have h2:=S.dfl
 have hn:((as.map (·.arg))).Nodup:=by
  have:=S.nd
  unfold cb at this
  exact(List.nodup_append.mp this).1
 rw[h1]at hb1 hb2 h2
 rw[←hl]at hb1 hb2
 rw[←q1]at hb2 h2
 have e1:=Hd hb1 hb2 h2
 refine⟨_,vY S.params hn hb1 h2 (wa hb2) q3,?_,?_⟩
 ·refine hV.append ?_
  rw[h1,←hl,←q1,e1]
  exact(q2 ρ N news).drop _
 ·rw[List.length_append,List.length_drop,e1];exact He hb1 hb2 h2
theorem o6 {fd:FuncData}{F:Fn}{as:List PySem.Arg}{ds:List Expr}{body:List Stmt}(S:Gb fd F as ds body){WV:List Value}{a0:Addr}: ∀x∈(as.map (·.arg)).zip WV,fd.scope.names.lookup x.1=some .local∨(fd.scope.names.lookup x.1=some .cell∧((cellsFrom a0 fd.scope.names []).lookup x.1).isSome=true):=fun x hx=>by
 rcases S.psk x.1 (List.of_mem_zip hx).1 with q|q
 ·exact .inl q
 ·exact .inr ⟨q,lookup_isSome (ef (.inl (mem_of_lookup q)))⟩
theorem wb{fd:FuncData}{F:Fn}{as:List PySem.Arg}{ds:List Expr}{body:List Stmt}(S:Gb fd F as ds body){ρ:Nat→Addr}{N:Nat}{news:Led}{W:List MV}{WV:List Value}(hW:br base ρ N news W WV)(hl:WV.length=(as.map (·.arg)).length){env:Env}{a0:Addr}
  (he:env.cells=cellsFrom a0 fd.scope.names [])(hc: ∀y∈as.map (·.arg),∀c,(cellsFrom a0 fd.scope.names []).lookup y=some c→ ∃o,bx ((c,o)∈news) (cK ρ N c) (o.data= .cell (bindC (fun y=>fd.scope.names.lookup y) ((as.map (·.arg)).zip WV) (fun _=>none) y))):
  cL base ρ N news ⟨cb (as.map (·.arg)) fd.scope.names,fd.scope.names⟩ env (bindL (fun y=>fd.scope.names.lookup y) ((as.map (·.arg)).zip WV) fun _=>none) (W++List.replicate (F.nl - F.np) .unb):=by
 have hWl:=hW.length
 have hnp:=S.np
 have hnl:=S.nl
 have hfst:((as.map (·.arg)).zip WV).map (·.1)=as.map (·.arg):=by rw[jU,hl,List.take_length]
 have hnd:=S.nd
 have hple:(as.map (·.arg)).length≤(cb (as.map (·.arg)) fd.scope.names).length:=by unfold cb;rw[List.length_append];exact Nat.le_add_right _ _
 refine⟨hnd,by(show _=(cb (as.map (·.arg)) fd.scope.names).length);rw[List.length_append,List.length_replicate];omega,fun i y u hi hu=> ?_,fun y hy=>(S.nms _ (mem_of_lookup hy)).2 rfl⟩
 have hndp:(as.map (·.arg)).Nodup:=by unfold cb at hnd;exact(List.nodup_append.mp hnd).1
 clear hnd
 by_cases hip:i<(as.map (·.arg)).length
 ·have hi':(as.map (·.arg))[i]? =some y:=by unfold cb at hi;rwa[List.getElem?_append_left hip]at hi
  have hu':W[i]? =some u:=by rwa[List.getElem?_append_left (by omega)]at hu
  obtain⟨U,hU,hUok⟩:=hW.get hu'
  have hmem:(y,U)∈(as.map (·.arg)).zip WV:=List.mem_of_getElem? (i:=i) (by rw[List.getElem?_zip_eq_some];exact⟨hi',hU⟩)
  have hym:=List.mem_of_getElem? hi'
  unfold bW
  rcases S.psk y hym with q|q
  ·simp only[q]
   exact .inr ⟨U,mw q (by rw[hfst];exact hndp) hmem,hUok⟩
  ·simp only[q]
   obtain⟨c,hcc⟩:=Option.isSome_iff_exists.mp (lookup_isSome (l:=cellsFrom a0 fd.scope.names []) (ef (.inl (mem_of_lookup q))))
   obtain⟨o,r1,r2,r3⟩:=hc y hym c hcc
   rw[mz (by rw[q];decide) (by rw[hfst];exact hndp) hmem]at r3
   exact⟨c,o,U,by rw[he];exact hcc,r1,r2,r3,hUok⟩
 ·have hip:=Nat.not_lt.mp hip
  have huv:u= .unb:=by
   rw[List.getElem?_append_right (by omega)]at hu
   exact(List.mem_replicate.mp (List.mem_of_getElem? hu)).2
  have hy:y∈fd.scope.names.filterMap fun p=>if(p.2== .local||p.2== .cell)&& !(as.map (·.arg)).contains p.1 then some p.1 else none:=by
   unfold cb at hi
   rw[List.getElem?_append_right hip]at hi
   exact List.mem_of_getElem? hi
  obtain⟨p,hp,hpy⟩:=List.mem_filterMap.mp hy
  obtain⟨hcnd,hpy⟩:=B5 hpy
  have hn:y∉as.map (·.arg):=by rw[←hpy];exact fun h=>by have q:=iD (a2 hcnd);rw[List.contains_iff_mem.mpr h]at q;cases q
  have hloc:p.2= .local:=by
   rcases Aj (a1 hcnd)with q|q
   ·exact beq_iff_eq.mp q
   ·exact absurd ((S.nms p hp).1 (beq_iff_eq.mp q)) (by rw[hpy];exact hn)
  have q:=gm S.nnd hp
  rw[hloc,hpy]at q
  unfold bW
  simp only[q]
  exact .inl ⟨huv,jh (by rw[hfst];exact hn)⟩
theorem kZ(B:Bs base fns)(C:eH pw w base fns n){f:Nat}{F:Fn}(hF:fns f=some F){fl:Bool}{args:List MV}{H:HH}{v:MV}{H':HH}(e:fZ (ao fns n) F fl args H=some (v,H'))
  {A:Around}{s:Shared}{h₀:Heap}{L:Addr}{m:Str→Option Value}{news:Led}{ρ:Nat→Addr}{Vs:List Value}{Q:Value→Shared→Prop}
  (hA:yM A (n+1))(st:bG base h₀)(R:Rel pw w base h₀ L s.heap m news ρ H)(hV:br base ρ H.length news args Vs)(P:bh pw w base h₀ L m ρ news H s v H' Q):cV fl (model pw w) A (.call (.ref f) ⟨Vs,[]⟩) (rI Q) s:=by
 obtain⟨hb,e⟩:=aO e
 obtain⟨g,loc',H1,e1,e⟩:=fu e
 obtain⟨K,kin,fd,⟨oc,od,osl,hl,hcode,hgl,hbi⟩,hck,hdfl⟩:=B.fn f F hF
 obtain⟨body,S⟩:=vZ hck
 have X:K.In s.heap:=fun a o z=>st.now R _ _ (kin a o z)
 obtain⟨WV,hbinds,hW,hWl⟩:=mA S X hdfl (Nat.le_of_ble_eq_true (a1 hb)) (Nat.le_of_ble_eq_true (a2 hb)) hV
 clear hV hdfl hck hb hF
 refine eS (mX hA.dp) (X f _ hl) rfl (codeRec_of X hcode) S.bod S.co S.gen hbinds ?_
 clear hl hcode hbinds
 rw[S.cl,hgl,hbi]
 refine wpAny_newFunctionEnv_cells S.kind (o6 S) fun env he s' x=> ?_
 rw[he]at x⊢
 clear he env
 refine⟨(B.nolim.keeps (st.now R)).keeps x.toInCall.keep,?_⟩
 generalize hL':s.heap.objs.size=L' at*
 obtain⟨h1,tk1,e2⟩:=x.toInCall.same
 rw[e2]at x⊢
 clear e2 s'
 have R1:=R.keeps (h':=h1) x.toInCall.keep
 have hns1:h1.Ns L' (bindL (fun y=>fd.scope.names.lookup y) ((fd.params.args.map (·.arg)).zip WV) fun _=>none):=x.toInCall.ns
 obtain⟨oF,hgF,hoF⟩:=LCg.ns_obj hns1
 have hnew: ∀p∈news,p.1<L':=fun p hm=>by have:=Heap.lt_size (R.N _ hm).1;rwa[hL']at this
 have hLL:L<L':=by have:=R.F.ns.lt;rwa[hL']at this
 have h0L:h₀.objs.size≤L':=Nat.le_of_lt (Nat.lt_of_le_of_lt R.F.above hLL)
 have NF:News h₀ L h1 ((L',oF)::news):=fun p hp=>by
  rcases List.mem_cons.mp hp with e|hp
  ·rw[e];exact⟨hgF,Nat.ne_of_gt hLL,Heap.get?_none_of_le h0L⟩
  ·exact R1.N p hp
 have hne: ∀p∈news,p.1≠L':=fun p hp=>Nat.ne_of_lt (hnew p hp)
 obtain⟨R2,x2,f2⟩:=R1.loose R1.F NF fun hm=>by
  obtain⟨p,hp,z⟩:=List.mem_map.mp hm
  exact hne p hp z
 have hcells: ∀y c,(cellsFrom (L'+1) fd.scope.names []).lookup y=some c→h1.IsCell c (bindC (fun y=>fd.scope.names.lookup y) ((fd.params.args.map (·.arg)).zip WV) (fun _=>none) y)∧L'<c:=fun y c hc=>⟨x.cell y c hc,x.above y c (mem_of_lookup hc)⟩
 obtain⟨news3,R3,x3,q3⟩:=ji R2 (cs:=cellsFrom (L'+1) fd.scope.names []) (lo:=L') (fun c o hm=>by
  rcases List.mem_cons.mp hm with z|hm
  ·exact Nat.le_of_eq (Prod.mk.inj z).1
  ·exact Nat.le_of_lt (hnew _ hm)) (Nat.le_of_lt hLL) h0L hcells (fd.params.args.map (·.arg))
 obtain⟨hmF3,hfF3⟩:=x3.keep (L',oF) (.head _) f2
 obtain⟨oL,hoL,hfL,R4,x4⟩:=R3.reframe hmF3 hfF3 hoF h0L
 have xe:=((x2.trans x3).toB.trans x4).ext hne
 have LO:=wb (env:=newEnv fd.scope L' mainGlobals (cellsFrom (L'+1) fd.scope.names []) (fd.qualname++ ".<locals>.") (some f) fd.code none builtinsNs) S (hW.mono xe) hWl rfl fun y hy c hc=>by
  obtain⟨o,r1,r2,r3⟩:=q3 y hy c hc
  exact⟨o,.tail _ (cF.mpr ⟨r1,Nat.ne_of_gt (hcells y c hc).2⟩),r2,r3⟩
 refine(kY B C 100).2 S.ck e1 ⟨hA.body _,st,⟨S.kind,rfl,rfl,rfl,rfl⟩,R4,LO⟩ fun ρ5 news5 m5 h5 tk5 Fl R5 x5 LO5 hFl=> ?_
 obtain⟨z1,z2⟩:=x5.keep (L,oL) (.head _) hfL
 obtain⟨oF5,hoF5,hfF5,R6,x6⟩:=R5.reframe z1 z2 hoL R.F.above
 have xout:Ext ρ H.length news ρ5 H1.length ((L',oF5)::cut news5 L):=by
  refine⟨Nat.le_trans xe.le (Nat.le_trans x5.le x6.le),fun i hi=>(x6.same i (Nat.lt_of_lt_of_le hi x5.le)).trans (x5.same i hi),fun p hp hf=> ?_⟩
  obtain⟨a1,a2⟩:=xe.keep p hp hf
  obtain⟨b1,b2⟩:=x5.keep p a1 a2
  exact x6.keep p b1 (R.N p hp).2.1 b2
 have x60:=x6.to0 fun p hp z=>by
  have:=gf R5.nd z1 hp z.symm
  rw[←this];exact gj hoL
 cases hFl with
 |next=>
  obtain⟨e1,e2⟩:=cp e
  rw[←e1,←e2]at P
  exact P ρ5 _ .none h5 tk5 R6 xout .none
 | @ret v V hv=>
  obtain⟨e1,e2⟩:=cp e
  rw[←e1,←e2]at P
  exact P ρ5 _ V h5 tk5 R6 xout (hv.mono0 x60)
 |brk=>exact aV e
 |cont=>exact aV e
theorem wc{fs:Nat→Option Fn}{fl:Bool}{f:Nat}{args:List MV}{H:HH}(q:Nat.beq f 741=false)(h:fs f=none):ao fs (n+1) fl f args H=none:=by
 show(if Nat.beq f 741 then _ else match fs f with|none=>none|some F=>_)=none
 rw[q,h];rfl
theorem wd{fs:Nat→Option Fn}{fl:Bool}{f:Nat}{args:List MV}{H:HH}{F:Fn}(q:Nat.beq f 741=false)(h:fs f=some F):ao fs (n+1) fl f args H=match args with
  |[]=>eX (fZ (ao fs n) F fl [] []) fun v _=>match v with
   | .bool c=>some (.bool c,H)
   |_=>none
  |x::r=>fZ (ao fs n) F fl (x::r) H:=by
 show(if Nat.beq f 741 then _ else match fs f with|none=>none|some F=>_)=_
 rw[q,h];rfl
theorem bh.fresh {h₀:Heap}{s:Shared}{L:Addr}{m:Str→Option Value}{news:Led}{ρ:Nat→Addr}{H H':HH}{c:Bool}{Q:Value→Shared→Prop}(R:Rel pw w base h₀ L s.heap m news ρ H)(P:bh pw w base h₀ L m ρ news H s (.bool c) H Q):
  bh pw w base h₀ L m ρ news [] s (.bool c) H' Q:=fun ρ' news' V h' tk R' x hV=>by
 have k: ∀p∈news,p∈news':=fun p hp=>(x.keep p hp fun i hi=>absurd hi (Nat.not_lt_zero i)).1
 have y:Ext ρ H.length news ρ H.length news':=⟨Nat.le_refl _,fun _ _=>rfl,fun p hp hf=>⟨k p hp,hf⟩⟩
 refine P ρ news' V h' tk ⟨R'.F,R'.N,R'.nd,R.inj,fun i o hi=> ?_⟩ y ?_
 ·obtain⟨ob,a,b⟩:=R.cell i o hi
  exact⟨ob,k _ a,b.mono y⟩
 ·rw[hV.boolInv]
  exact .bool c
theorem tB(B:Bs base fns)(Fo:nA pw w base (n+1))(C:eH pw w base fns n):eH pw w base fns (n+1):=by
 intro fl f args H v H' e A s h₀ L m news ρ Vs Q hA st R hV P
 cases q:Nat.beq f 741 with
 |true=>
  rw[Nat.eq_of_beq_eq_true q]at e⊢
  obtain⟨u,hu,e⟩:=Option.map_eq_some_iff.mp e
  obtain⟨e1,e2⟩:=Prod.mk.inj e
  rw[←e1,←e2]at P
  exact Fo fl args H u hu A s h₀ L m news ρ Vs Q hA st R hV P
 |false=>
  cases hF:fns f with
  |none=>rw[wc q hF]at e;exact aV e
  |some F=>
   rw[wd q hF]at e
   cases args with
   |cons x r=>exact kZ B C hF e hA st R hV P
   |nil=>
    obtain⟨u,H1,e1,e⟩:=aD e
    cases u with
    |bool c=>
     obtain⟨e2,e3⟩:=cp e
     rw[←e2,←e3]at P
     exact kZ B C hF e1 hA st ⟨R.F,R.N,R.nd,fun i j hi=>absurd hi (Nat.not_lt_zero i),fun i o hi=>nomatch hi⟩ (by rw[hV.nilInv];exact .nil) (P.fresh R)
    |_=>exact aV e
theorem k9 (B:Bs base fns)(Fo: ∀n,eH pw w base fns n→nA pw w base (n+1)): ∀n,eH pw w base fns n
 |0=>by intro fl f args H v H' e;cases e
 |n+1=>tB B (Fo n (k9 B Fo n)) (k9 B Fo n)
end
theorem o7 {args:List MV}{v:MV}(h:mP args=some v):(args=[.str 183,.str 201]∧v= .str 186)∨(args=[.str 184,.str 201]∧v= .str 187):=by
 cases args with
 |nil=>exact aV h
 |cons a r=>
  cases a with
  |str s=>
   cases r with
   |nil=>exact aV h
   |cons b r=>
    cases b with
    |str e=>
     cases r with
     |cons=>exact aV h
     |nil=>
      obtain⟨q,h⟩:=aO h
      rw[Nat.eq_of_beq_eq_true q]
      rcases i9 h with⟨q,h⟩|⟨_,h⟩
      ·rw[Nat.eq_of_beq_eq_true q]
       exact .inl ⟨rfl,(Option.some.inj h).symm⟩
      ·obtain⟨q,h⟩:=aO h
       rw[Nat.eq_of_beq_eq_true q]
       exact .inr ⟨rfl,(Option.some.inj h).symm⟩
    |_=>exact aV h
  |_=>exact aV h
theorem we{call:eZ}{fl:Bool}{H:HH}:fZ call ye fl [.str 183,.str 201] H=some (.str 186,H):=by kernel_rfl
theorem wi{call:eZ}{fl:Bool}{H:HH}:fZ call ye fl [.str 184,.str 201] H=some (.str 187,H):=by kernel_rfl
theorem qJ{w:World}{base:Heap}(B:Bs base fns)(n:Nat)(C:eH pw w base fns n):nA pw w base (n+1):=by
 intro fl args H v hv A s h₀ L m news ρ Vs Q hA st R hV P
 have e:fZ (ao fns n) ye fl args H=some (v,H):=by
  rcases o7 hv with⟨e1,e2⟩|⟨e1,e2⟩
  ·rw[e1,e2];exact we
  ·rw[e1,e2];exact wi
 exact kZ B C (f:=741) rfl e hA st R hV P
section
variable{w:World}{n:Nat}
theorem call_top{s:Shared}{A:Around}{fl:Bool}{f:Nat}{args:List MV}{v:MV}{H':HH}{Vs:List Value}{Q:Value→Shared→Prop}(B:Bs s.heap fns)(C:eH pw w s.heap fns n)(hA:yM A (n+1)){F:Fn}(hF:fns f=some F)
  (e:fZ (ao fns n) F fl args []=some (v,H'))(hV:br s.heap (fun _=>0) 0 [] args Vs)
  (P: ∀ρ' N news' V h' tk,(∀b o,s.heap.get? b=some o→h'.get? b=some o)→aY s.heap ρ' N news' v V→Q V {s with heap:=h',toks:=tk}):cV fl (model pw w) A (.call (.ref f) ⟨Vs,[]⟩) (rI Q) s:=by
 obtain⟨hb,e⟩:=aO e
 obtain⟨g,loc',H1,e1,e⟩:=fu e
 obtain⟨K,X,fd,⟨oc,od,osl,hl,hcode,hgl,hbi⟩,hck,hdfl⟩:=B.fn f F hF
 obtain⟨body,S⟩:=vZ hck
 obtain⟨WV,hbinds,hW,hWl⟩:=mA S X hdfl (Nat.le_of_ble_eq_true (a1 hb)) (Nat.le_of_ble_eq_true (a2 hb)) hV
 clear hV hdfl hck hb hF
 refine eS (mX hA.dp) (X f _ hl) rfl (codeRec_of X hcode) S.bod S.co S.gen hbinds ?_
 clear hl hcode hbinds
 rw[S.cl,hgl,hbi]
 refine wpAny_newFunctionEnv_cells S.kind (o6 S) fun env he s' x=> ?_
 rw[he]at x⊢
 clear he env
 refine⟨B.nolim.keeps x.toInCall.keep,?_⟩
 generalize hL':s.heap.objs.size=L' at*
 obtain⟨h1,tk1,e2⟩:=x.toInCall.same
 rw[e2]at x⊢
 clear e2 s'
 have hk:=x.toInCall.keep
 have hns1:h1.Ns L' (bindL (fun y=>fd.scope.names.lookup y) ((fd.params.args.map (·.arg)).zip WV) fun _=>none):=x.toInCall.ns
 have R1:Rel pw w s.heap s.heap L' h1 (bindL (fun y=>fd.scope.names.lookup y) ((fd.params.args.map (·.arg)).zip WV) fun _=>none) [] (fun _=>0) []:=⟨⟨hns1,hk,Nat.le_of_eq hL'⟩,fun _ hm=>(nomatch hm),List.nodup_nil,fun i j hi=>absurd hi (Nat.not_lt_zero i),fun i o hi=>(nomatch hi)⟩
 have hcells: ∀y c,(cellsFrom (L'+1) fd.scope.names []).lookup y=some c→h1.IsCell c (bindC (fun y=>fd.scope.names.lookup y) ((fd.params.args.map (·.arg)).zip WV) (fun _=>none) y)∧L'<c:=fun y c hc=>⟨x.cell y c hc,x.above y c (mem_of_lookup hc)⟩
 obtain⟨news3,R3,x3,q3⟩:=ji R1 (cs:=cellsFrom (L'+1) fd.scope.names []) (lo:=L') (fun c o hm=>nomatch hm) (Nat.le_refl _) (Nat.le_of_eq hL') hcells (fd.params.args.map (·.arg))
 have LO:=wb (env:=newEnv fd.scope L' mainGlobals (cellsFrom (L'+1) fd.scope.names []) (fd.qualname++ ".<locals>.") (some f) fd.code none builtinsNs) S (hW.mono x3) hWl rfl q3
 refine(kY B C 100).2 S.ck e1 ⟨hA.body _,fun _ _ e=>e,⟨S.kind,rfl,rfl,rfl,rfl⟩,R3,LO⟩ fun ρ5 news5 m5 h5 tk5 Fl R5 x5 LO5 hFl=> ?_
 cases hFl with
 |next=>
  obtain⟨e1,e2⟩:=cp e
  rw[←e1]at P
  exact P ρ5 H'.length news5 .none h5 tk5 R5.F.keep .none
 | @ret v V hv=>
  obtain⟨e1,e2⟩:=cp e
  rw[←e1]at P
  exact P ρ5 _ news5 V h5 tk5 R5.F.keep hv
 |brk=>exact aV e
 |cont=>exact aV e
end
end Mine.Internal
end
section
namespace Mine.Internal
open PySem PySem.Spec PySem.Calls PyProof.Rows PySem.W PySem.SeqAt
open Sem (wp)
noncomputable abbrev EJ:PySem.Ctx:=⟨.builtin "claim.caller" {},none,none,[],none⟩
theorem rN:leftWithCleanup #[]=false:=by decide+kernel
theorem It:PB true EJ:=fun _=>⟨by decide+kernel,fun x hx=>nomatch hx⟩
theorem B6 {prog:Program}{w:World}{t:Sem Fin}{s:Shared}{R:Result→Shared→Prop}(hreg:s.asleep)(hgens:s.gens= #[])
  (h:wpP true (model prog w) callerA t (fun fin s'=> ∃f,bx (fin= .done f) (R (.ok f) s') (s'.gens= #[])) s):
  iX fun n r s'=>cC (schedN (denote table) prog w n (.single s ⟨t,.builtin "claim.caller" {},default,[]⟩)= .halted (outcomeOf r) s') (s'.heap.life=s.heap.life) (R r s') (s'.gens= #[]):=by
 have h':wp (model prog w) EJ t (Sem.finPost (model prog w) EJ fun r s'=>(R r s'∧s'.gens= #[])∧leftWithCleanup s'.gens=false)
   (fun e _ s'=>(R (.error e) s'∧s'.gens= #[])∧leftWithCleanup s'.gens=false) default s:=by
  refine Sem.wp_mono _ EJ t (fun fin p' s' h'=> ?_) (fun _ _ _ z=>z.elim) default s (h EJ default caller_in It)
  obtain⟨f,rfl,hf,hg⟩:=h'
  exact⟨⟨hf,hg⟩,by rw[hg];exact rN⟩
 obtain⟨n,r,s₁,hn,hR,hg⟩:=(wp_iff_halts (M:=model prog w) (R:=fun r s'=>R r s'∧s'.gens= #[]) ..).mp h'
 obtain⟨s₂,hr,hf,hc⟩:=runNI_real _ _ _ hn (outcomeOf_ends r)
 obtain rfl:s₂=s₁:=Shared.eq_of_forget_eq hf hg
 have hs:s={s with gens:= #[]}:=by obtain⟨a,b,c,d,e⟩:=s;cases hgens;rfl
 have q:=sched_gens (G:= #[]) (s:=s) (s':=s₂) rN hr (outcomeOf_ends r) hg rfl hc hreg
 rw[←hs]at q
 have hs2:s₂={s₂ with gens:= #[]}:=by obtain⟨a,b,c,d,e⟩:=s₂;have:=hg;cases this;rfl
 rw[←hs2]at q
 exact⟨n,r,s₂,q,runN_life _ _ _ hr,hR,hg⟩
noncomputable abbrev An (q:Program)(loose:List PySem.Str)(XP:(PySem.Str→Option Value)→Heap→Prop)(YP:World→Heap→Prop)(r:RowW)(d:DefRec):Prop:=
 ∀(w:World)(s₀ s₁:Shared)(mg mb:PySem.Str→Option Value),Ground q loose r.records XP w s₀ mg mb s₁.heap→YP w s₁.heap→ ∀(a:Addr),mg d.name=some (.ref a)→s₁.gens= #[]→
  ∀(args:List WData)(vals:List Value)(as:List Addr),r.claim.pre args=true→WData.layableAll args=true→ReadsAllW r.records (classAt s₀.heap) s₁.heap vals args as→
   wpP true (model r.prog w) callerA (PySem.call (.ref a) vals) (fun v s'=>GoodWG r.claim (classAt s₀.heap) (ExcName.means s₀.heap) args s₁ (.ok (.ret v)) s'∧s'.gens= #[]) s₁
theorem qK{c:ClaimW}{tree:List Value→Sem Fin}{w:World}{s:Shared}{free:Addr→Prop}{gens:Prop}{kept:Heap→Prop}(hz:s.asleep)(hgens:s.gens= #[])
  (hspec: ∀args,c.pre args=true→WData.layableAll args=true→ ∀ord:List DictEntry→List DictEntry,(∀l,(ord l).Perm l)→
   dk fun vs s₁=>layAllW c.records (classAt s.heap) w.params ord args s=some (vs,s₁)∧
    wpP true (model c.prog w) callerA (tree vs) (fun fin s'=> ∃f,bx (fin= .done f) ((c.Ends s args vs s₁ (.ok f) s'∧s'.os=s.os∧kept s'.heap)) (s'.gens= #[])) s₁):
  c.CallFrom (fun vs=>⟨tree vs,.builtin "claim.caller" {},default,[]⟩) w free gens kept s:=by
 intro args hpre hlay ord hord
 obtain⟨vs,s₁,hlaid,hcode⟩:=hspec args hpre hlay ord hord
 have hal:=layAllW_rest _ _ _ hlaid
 obtain⟨k,r,s',hsched,hlife,⟨hcase,hos,hkp⟩,hg⟩:=B6 (prog:=c.prog) (w:=w) (t:=tree vs) (s:=s₁) (R:=fun r s'=>c.Ends s args vs s₁ r s'∧s'.os=s.os∧kept s'.heap)
  (Shared.asleep_of_life hal.2.2.2 hz) (hal.1.trans hgens) hcode
 refine⟨vs,s₁,hlaid,k,_,s',hsched,?_,(fun _ i x hx=>by rw[hgens]at hx;simp at hx),hkp,by rw[hlife.trans hal.2.2.2],Shared.rest_eq hos⟩
 rcases hcase with⟨v,rfl,d1,d2,d3,d4,d5⟩|⟨e,ob,cls,rfl,d1,d2,d3,d4,d5⟩
 ·exact .inl ⟨v,rfl,d1,d2,d3,fun b o y _=>d4 b o y,d5⟩
 ·exact .inr ⟨e,ob,cls,rfl,d1,d2,d3,d4,fun b o y _=>d5 b o y⟩
theorem o8 {r:OpenRow}{q:Program}{loose:List PySem.Str}{Xt:Shared→Bool}{XP:(PySem.Str→Option Value)→Heap→Prop}{α:Type}{Yf:Shared→α}{Ya:World→α}{YP:World→Heap→Prop}{d:DefRec}{kwd:List (PySem.Str×Expr)}{N:Nat}
  (left:LeftO r.prog q loose Xt Yf Ya N)(hY: ∀w s,Yf s=Ya w→YP w s.heap)(hYk: ∀w h h',YP w h→(∀b o,h.get? b=some o→h'.get? b=some o)→YP w h')
  (hX: ∀s,Xt s=true→XP (s.heap.nsMap mainGlobals) s.heap)(hXk: ∀mg h h',XP mg h→(∀b o,h.get? b=some o→h'.get? b=some o)→XP mg h')
  (hdef:defOf q r.name=some (d,kwd))(hp:r.prog.theDef r.name=some (d.params,d.body,d.scope))(hk:kwWritten? d.params.kwonlyargs d.params.kw_defaults=some kwd)(hRf: ∀s,Xt s=true→RecFacts r.records s.heap)(hwr:(!r.writes||r.records.isEmpty)=true)
  (k1:r.wellSaid=true)(ok:(chainsOk q&&opensWell r.prog&&(frees r.toRowW&&r.within.isEmpty))=true)(hb:r.prog.bare)(hw:r.toRowW.promised)
  (call:An q loose XP YP r.toRowW d):r.Holds:=by
 refine⟨k1,hw,?_⟩
 obtain⟨ok,k5⟩:=Bool.and_eq_true_iff.mp ok
 obtain⟨hch,o1⟩:=Bool.and_eq_true_iff.mp ok
 obtain⟨k5,k6⟩:=Bool.and_eq_true_iff.mp k5
 obtain⟨hsame,hu,ha,hap,hm⟩:=frees_parts k5
 refine⟨⟨hb,o1,by show r.makers.map _=[];rw[hm];rfl⟩,hw.witness,fun w=>⟨(left.behind hX hch w).1,fun s' hs'=> ?_⟩⟩
 obtain⟨s₀,hf,hg0,s,hT,hz,hgens,hg,G00,y⟩:=(left.behind (XP:=fun mg h=>XP mg h∧RecFacts r.records h) (fun s hs=>⟨hX s hs,hRf s hs⟩) hch w).2 s' hs'
 have G0:Ground q loose [] XP w s (s.heap.nsMap mainGlobals) (s.heap.nsMap builtinsNs) s.heap:=⟨G00.T,G00.B,G00.D,G00.TE,G00.TD,G00.W,G00.X.1,G00.cls,G00.has,G00.apart,G00.once,G00.K⟩
 have RF:=G00.X.2
 have pin: ∀n∈(if r.pinned then [r.name]else []),isTheDefsW r.prog s.heap n:=fun n hn=>by
  obtain rfl:n=r.name:=by split at hn<;>simp_all
  exact pinned_of_view hg G0 hdef hp hk
 refine⟨s₀,hf,hg0,s,hT,pin,RF.1,RF.2.1,?_⟩
 have hgens:s.gens= #[]:=Array.eq_empty_of_size_eq_zero (beq_iff_eq.mp hgens)
 have G:Ground q loose r.records XP w s _ _ s.heap:=RF.ground G0
 refine qK (c:=r.claim) (tree:=fun vs=>do match←nsGet mainNs r.name with
   |some f=>do ret (←PySem.call f vs)
   |none=>unsupported "claim.caller:no-such-global") hz hgens fun args hpre hlay ord hord=> ?_
 obtain⟨⟨vs,s₁⟩,hlaid⟩:=Option.isSome_iff_exists.mp (layAllW_isSome (P:=w.params) (ord:=ord) G.has args r.args s (pre_splitW hpre).1)
 have keeps:=layAllW_keeps _ _ _ hlaid
 have hal:=layAllW_rest _ _ _ hlaid
 obtain⟨as,hrd,hin,hold⟩:=reads_layAllW hord _ _ _ hlaid hlay s₁.heap (fun _ _ e=>e)
 have L:Laid r.records w s s₁ args vs as:=⟨⟨ord,hord,hlaid⟩,hrd,hin,hold,keeps,hal.1.trans hgens,hal.2.2.1⟩
 have G₁:=G.keeps hXk keeps
 obtain⟨a,o,pm,cd,doc,dV,kV,h1,h2,h3,h4,h5⟩:=G₁.fn hdef
 have hwalk:=call w s s₁ _ _ G₁ (hYk _ _ _ (hY w s y) keeps) a (defOf_name hdef▸h1) L.gens args vs as hpre hlay L.reads
 have hi:=ident_freeW hu ha hap
 have hwi:r.claim.within=[]:=List.isEmpty_iff.mp k6
 refine⟨vs,s₁,hlaid,aT (wpAny_nsGet G₁.T.g ?_)⟩
 rw[h1]
 refine aj (dH hwalk fun v s' g=>ay ⟨_,rfl,?_,g.2⟩)
 have z:=g.1.laid (c:=r.claim) hsame hwi hi L
 exact⟨z.1,z.2.1,fun q=>⟨namesKept_of hT hg r.keeps keeps g.1.2.1.old,noTable hwr q⟩⟩
end Mine.Internal
end
section
namespace Mine.Internal
open PySem PySem.Spec PySem.Calls PyProof.Rows PySem.W PySem.SeqAt
theorem o9: ∀(n:Nat)(l:List Obj)(i:Nat)(r:List Obj),(rows l n)[i]? =some r→r=l.drop (36*i)
 |0,_,_,_,h=>nomatch (show(none:Option (List Obj))=some _ from h)
 |n+1,l,0,r,h=>(Option.some.inj (show some l=some r from h)).symm
 |n+1,l,i+1,r,h=>by
  rw[o9 n _ i r h,List.drop_drop,Nat.add_comm];rfl
theorem jV{h:Heap}{n a:Nat}{o:Obj}(e:at_ (rows h.objs.toList n) a=some o):h.get? a=some o:=by
 unfold at_ at e
 cases hr:(rows h.objs.toList n)[a / 36]? with
 |none=>rw[hr]at e;exact aV e
 |some r=>
  rw[hr]at e
  dsimp only at e
  cases ho:r[a % 36]? with
  |none=>rw[ho]at e;exact aV e
  |some o'=>
   rw[ho]at e
   rcases i9 e with⟨_,e⟩|⟨hf,e⟩
   ·exact aV e
   ·rw[Option.some.inj e]at ho hf
    rw[o9 _ _ _ _ hr,List.getElem?_drop,show 36*(a / 36)+a % 36=a from Nat.div_add_mod a 36]at ho
    have hx:h.objs[a]? =some o:=by rw[←ho];simp
    unfold Heap.get?
    rw[hx]
    obtain⟨c,d,dt,sl⟩:=o
    cases dt<;>first|rfl|exact eK hf.symm
theorem iL{h:Heap}{n:Nat}(as:List Nat):(pickK (rows h.objs.toList n) as).In h:=by
 induction as with
 |nil=>intro _ _ e;exact nomatch e
 |cons x r ih=>
  intro a o e
  have e:(match at_ (rows h.objs.toList n) x with|some o=>(x,o)::pickK (rows h.objs.toList n) r|none=>pickK (rows h.objs.toList n) r).lookup a=some o:=e
  cases ho:at_ (rows h.objs.toList n) x with
  |none=>rw[ho]at e;exact ih a o e
  |some o'=>
   rw[ho]at e
   rw[List.lookup_cons]at e
   cases q:a==x with
   |true=>
    rw[q]at e
    rw[beq_iff_eq.mp q,←Option.some.inj e]
    exact jV ho
   |false=>rw[q]at e;exact ih a o e
theorem wj{v:MV}{V:Value}(h:z8 v V=true)(base:Heap)(ρ:Nat→Addr)(N:Nat)(news:Led):aY base ρ N news v V:=by
 cases v with
 |none=>
  cases V with
  |none=>exact .none
  |_=>exact bF h
 |bool a=>
  cases V with
  |bool b=>rw[beq_iff_eq.mp h];exact .bool _
  |_=>exact bF h
 |int a=>
  cases V with
  |int b t=>rw[of_decide_eq_true h];exact .int _ _
  |_=>exact bF h
 |bytes a=>
  cases V with
  |bytes b t=>
   have q:=aY.bytes (base:=base) (ρ:=ρ) (N:=N) (news:=news) b.toList t
   rw[Array.toArray_toList]at q
   rw[of_decide_eq_true h]
   exact q
  |_=>exact bF h
 |_=>exact bF h
theorem qL: ∀{vs:List MV}{Vs:List Value},mT vs Vs=true→ ∀(base:Heap)(ρ:Nat→Addr)(N:Nat)(news:Led),br base ρ N news vs Vs:=by
 intro vs
 induction vs with
 |nil=>intro Vs h base ρ N news;rw[List.isEmpty_iff.mp h];exact .nil
 |cons v r ih=>
  intro Vs h base ρ N news
  cases Vs with
  |nil=>exact bF h
  |cons V R=>exact .cons (wj (a1 h) _ _ _ _) (ih (a2 h) _ _ _ _)
theorem tC{d:Data}{items:Array Value}(h:qf d=some items): ∃n,d= .seq items n:=by
 cases d with
 |seq a n=>exact⟨n,by rw[←Option.some.inj h]⟩
 |_=>exact aV h
theorem wk{K:Frag}{v:Value}{dfl:List MV}(h:uH K v dfl=true):lX K v dfl:=by
 cases v with
 |none=>rw[List.isEmpty_iff.mp h];exact .none
 |ref T=>
  unfold uH at h
  dsimp only at h
  cases e:K.lookup T with
  |none=>rw[e]at h;exact bF h
  |some o=>
   rw[e]at h
   dsimp only at h
   cases e2:qf o.data with
   |none=>rw[e2]at h;exact bF h
   |some items=>
    rw[e2]at h
    obtain⟨n,e3⟩:=tC e2
    exact .some e e3 fun base ρ N news=>qL h _ _ _ _
 |_=>exact bF h
theorem tD{d:Data}{fd:FuncData}(h:uI d=some fd):d= .func fd:=by
 cases d with
 |func f=>rw[←Option.some.inj h]
 |_=>exact aV h
theorem mB{t:List (List Obj)}{a:Nat}{fd:FuncData}(h:gb t a=some fd):iX fun oc od osl=>at_ t a=some ⟨oc,od,.func fd,osl⟩:=by
 unfold gb at h
 cases e:at_ t a with
 |none=>rw[e]at h;exact aV h
 |some o=>
  rw[e]at h
  obtain⟨c,d,dt,sl⟩:=o
  exact⟨c,d,sl,by rw[←tD h]⟩
theorem la{t:List (List Obj)}{a:Nat}{o:Obj}{as:List Nat}(h:at_ t a=some o):(pickK t (a::as)).lookup a=some o:=by
 unfold pickK
 rw[h]
 exact(List.lookup_cons ..).trans (by rw[beq_self_eq_true])
theorem Ao{t:List (List Obj)}{a:Nat}{fd:FuncData}{as:List Nat}(h:gb t a=some fd)(ok:Bn (pickK t (a::as)) fd=true):yL (pickK t (a::as)) a fd:=by
 obtain⟨oc,od,osl,e⟩:=mB h
 exact⟨oc,od,osl,la e,a2 (a2 ok),Nat.eq_of_beq_eq_true (a1 ok),Nat.eq_of_beq_eq_true (a1 (a2 ok))⟩
theorem wm{h:Heap}{n a:Nat}{F:Fn}(e:oi (rows h.objs.toList n) a F=true): ∃K:Frag,K.In h∧Ej K a F:=by
 unfold oi at e
 cases q:gb (rows h.objs.toList n) a with
 |none=>rw[q]at e;exact bF e
 |some fd=>
  rw[q]at e
  exact⟨_,iL (n:=n) _,fd,Ao q (a1 e),a2 (a2 e),wk (a1 (a2 e))⟩
theorem pa{c k:Nat}: ∀{l:List (Nat×Nat)},sD l c k=true→(c,k)∈l
 |[],h=>bF h
 |(a,b)::r,h=>by
  rcases Bool.or_eq_true_iff.mp (show((Nat.beq a c&&Nat.beq b k)||sD r c k)=true from h)with h|h
  ·obtain⟨h1,h2⟩:=Bool.and_eq_true_iff.mp h
   rw[Nat.eq_of_beq_eq_true h1,Nat.eq_of_beq_eq_true h2];exact .head _
  ·exact .tail _ (pa h)
theorem tE{c k f:Nat}{l:List (Nat×Nat×Nat)}(h:ip l c k=some f):(c,k,f)∈l:=by
 induction l with
 |nil=>exact aV h
 |cons p r ih=>
  rcases i9 (show(if(Nat.beq p.1 c&&Nat.beq p.2.1 k)=true then some p.2.2 else ip r c k)=some f from h)with⟨q,h⟩|⟨_,h⟩
  ·obtain⟨h1,h2⟩:=dI q
   rw[←Nat.eq_of_beq_eq_true h1,←Nat.eq_of_beq_eq_true h2,←Option.some.inj h];exact .head _
  ·exact .tail _ (ih h)
theorem wq(c k:Nat):(∃f,ip jZ c k=some f∧ck c k= .meth f)∨(∃g,ip t9 c k=some g∧ck c k= .prop g)∨(sD j0 c k=true∧ck c k= .plain)∨ck c k= .no:=by
 unfold ck
 cases q:ip jZ c k with
 |some f=>exact .inl ⟨f,rfl,rfl⟩
 |none=>
  cases q2:ip t9 c k with
  |some g=>exact .inr (.inl ⟨g,rfl,rfl⟩)
  |none=>
   cases q3:sD j0 c k with
   |true=>exact .inr (.inr (.inl ⟨rfl,rfl⟩))
   |false=>exact .inr (.inr (.inr rfl))
theorem wt{c k:Nat}(h:ck c k= .plain):(c,k)∈j0:=by
 rcases wq c k with⟨f,_,e⟩|⟨g,_,e⟩|⟨e,_⟩|e
 ·exact nomatch h.symm.trans e
 ·exact nomatch h.symm.trans e
 ·exact pa e
 ·exact nomatch h.symm.trans e
theorem y8 {c k f:Nat}(h:ck c k= .meth f):(c,k,f)∈jZ:=by
 rcases wq c k with⟨f,q,e⟩|⟨g,_,e⟩|⟨_,e⟩|e
 ·rw[CK.meth.inj (h.symm.trans e)];exact tE q
 ·exact nomatch h.symm.trans e
 ·exact nomatch h.symm.trans e
 ·exact nomatch h.symm.trans e
theorem tF(c k g:Nat):ck c k≠ .prop g:=by
 intro h
 rcases wq c k with⟨f,_,e⟩|⟨g,q,_⟩|⟨_,e⟩|e
 ·exact nomatch h.symm.trans e
 ·exact aV q
 ·exact nomatch h.symm.trans e
 ·exact nomatch h.symm.trans e
theorem pb{K:Frag}{c f:Nat}(e:uK K c f=true):vt K c f∧keepIn K (.ref c)=true:=by
 have h2:=a2 (a2 (a2 e))
 have h3:=a2 (a2 (a2 h2))
 refine⟨⟨a1 e,beq_iff_eq.mp (a1 (a2 e)),beq_iff_eq.mp (a1 (a2 (a2 e))),beq_iff_eq.mp (a1 h2),a1 (a2 h2),a1 (a2 (a2 h2)),fun _=>a1 h3,fun k hk=> ?_,fun k g hk=> ?_⟩,a1 (a2 h3)⟩
 ·have:=List.all_eq_true.mp (a1 (a2 (a2 h3))) _ (wt hk)
  rcases Aj this with q|q
  ·rw[Nat.beq_refl]at q;exact bF q
  ·exact⟨beq_iff_eq.mp (a1 q),beq_iff_eq.mp (a2 q)⟩
 ·have hm:(k,g)∈uJ jZ c:=List.mem_filterMap.mpr ⟨(c,k,g),y8 hk,by simp⟩
  have:=List.all_eq_true.mp (a2 (a2 (a2 h3))) _ hm
  exact⟨beq_iff_eq.mp (a1 this),a1 (a2 this),a2 (a2 this)⟩
theorem mC{h:Heap}{n c f:Nat}(e:mU (rows h.objs.toList n) c f=true): ∃K:Frag,bx (K.In h) (vt K c f) (keepIn K (.ref c)=true):=by
 unfold mU at e
 cases q:clsAt (rows h.objs.toList n) c with
 |none=>rw[q]at e;exact bF e
 |some cd=>
  rw[q]at e
  exact⟨_,iL (n:=n) _,(pb e).1,(pb e).2⟩
theorem Ap{h:Heap}{a:Addr}{c:Value}{d:Option Addr}{es:Array DictEntry}{n:Nat}{sl:Array (Option Value)}(ho:h.get? a=some ⟨c,d,.dict es n,sl⟩)(hk:kg es.toList=true):h.Ns a (DE es.toList):=by
 refine⟨_,es,n,ho,rfl,fun e he=> ?_,fun name=> ?_⟩
 ·have:=List.all_eq_true.mp hk e (Array.mem_toList_iff.mpr he)
  cases q:e.key with
  |str x t=>exact⟨x,t,rfl⟩
  |_=>rw[q]at this;exact bF this
 ·unfold DE nsFind findBy
  rw[Array.find?_toList]
theorem B7 {v:MV}{V:Value}(h:HV v V=true):Ak v V:=by
 cases v with
 |int a=>
  cases V with
  |int b t=>rw[of_decide_eq_true h];exact .int _ _
  |_=>exact bF h
 |str k=>
  cases V with
  |str x t=>rw[(cR h).2];exact .str _ _ (cR h).1
  |_=>exact bF h
 |fn a=>
  cases V with
  |ref b=>rw[Nat.eq_of_beq_eq_true h];exact .fn _
  |_=>exact bF h
 |cls a=>
  cases V with
  |ref b=>rw[Nat.eq_of_beq_eq_true h];exact .cls _
  |_=>exact bF h
 |_=>exact bF h
theorem tG{a b:Value}(h:uL a b=true):a=b:=by
 cases a with
 |builtin x=>
  cases b with
  |builtin y=>rw[beq_iff_eq.mp h]
  |_=>exact bF h
 |type x=>
  cases b with
  |type y=>rw[beq_iff_eq.mp h]
  |_=>exact bF h
 |_=>exact bF h
theorem mD{t:List (List Obj)}{a:Nat}{es:Array DictEntry}(h:dictAt t a=some es):jM fun c d n sl=>at_ t a=some ⟨c,d,.dict es n,sl⟩:=by
 unfold dictAt at h
 cases e:at_ t a with
 |none=>rw[e]at h;exact aV h
 |some o=>
  rw[e]at h
  obtain⟨c,d,dt,sl⟩:=o
  cases dt with
  |dict x n=>exact⟨c,d,n,sl,by rw[←Option.some.inj h]⟩
  |_=>exact aV h
theorem mE{o:Option Value}{f:Value→Bool}(h:qg o f=true): ∃V,o=some V∧f V=true:=by
 cases o with
 |none=>exact bF h
 |some V=>exact⟨V,rfl,h⟩
theorem rO(b:BK):b∈GK:=by cases b<;>decide
theorem pd{a b:MV}(h:rq a b=true):a=b:=by
 cases a with
 |fn x=>
  cases b with
  |fn y=>exact congrArg _ (Nat.eq_of_beq_eq_true h)
  |_=>exact bF h
 |cls x=>
  cases b with
  |cls y=>exact congrArg _ (Nat.eq_of_beq_eq_true h)
  |_=>exact bF h
 |int x=>
  cases b with
  |int y=>exact congrArg _ (of_decide_eq_true h)
  |_=>exact bF h
 |str x=>
  cases b with
  |str y=>exact congrArg _ (Nat.eq_of_beq_eq_true h)
  |_=>exact bF h
 |_=>exact bF h
theorem tH{x:Nat}{F:Fn}{l:List (Nat×Fn)}(h:rz l x=some F):(x,F)∈l:=by
 induction l with
 |nil=>exact aV h
 |cons p r ih=>
  rcases i9 (show(if Nat.beq p.1 x=true then some p.2 else rz r x)=some F from h)with⟨q,h⟩|⟨_,h⟩
  ·rw[←Nat.eq_of_beq_eq_true q,←Option.some.inj h];exact .head _
  ·exact .tail _ (ih h)
theorem mF{x f:Nat}{l:List (Nat×Nat)}(h:dC l x=some f):(x,f)∈l:=by
 induction l with
 |nil=>exact aV h
 |cons p r ih=>
  rcases i9 (show(if Nat.beq p.1 x=true then some p.2 else dC r x)=some f from h)with⟨q,h⟩|⟨_,h⟩
  ·rw[←Nat.eq_of_beq_eq_true q,←Option.some.inj h];exact .head _
  ·exact .tail _ (ih h)
theorem qM{h:Heap}{n:Nat}{p:String×MV}(e:ix (rows h.objs.toList n) p=true){a:Nat}(hp:p.2= .fn a): ∃K:Frag,K.In h∧keepIn K (.ref a)=true:=by
 unfold ix at e
 rw[hp]at e
 obtain⟨fd,q⟩:=Option.isSome_iff_exists.mp e
 obtain⟨oc,od,osl,q⟩:=mB q
 refine⟨_,iL (n:=n) [a],?_⟩
 unfold keepIn
 dsimp only
 rw[la q]
theorem tI{h:Heap}{n f:Nat}{T:List (Nat×Nat×Nat)}(e:mW (rows h.objs.toList n) f T=true): ∃K:Frag,K.In h∧vu K f T:=by
 unfold mW at e
 cases q:gb (rows h.objs.toList n) f with
 |none=>rw[q]at e;exact bF e
 |some fd=>
  rw[q]at e
  have e3:fd.defaults= .none:=by
   have:=a1 (a2 e)
   generalize fd.defaults=d at this
   cases d with
   |none=>rfl
   |_=>exact bF this
  exact⟨_,iL (n:=n) _,fd,Ao q (a1 e),e3,a2 (a2 e)⟩
theorem wu{f:Nat}{T:List (Nat×Nat×Nat)}{l:List (Nat×List (Nat×Nat×Nat))}(h:tabs l f=some T):(f,T)∈l:=by
 induction l with
 |nil=>exact aV h
 |cons p r ih=>
  rcases i9 (show(if Nat.beq p.1 f=true then some p.2 else tabs r f)=some T from h)with⟨q,h⟩|⟨_,h⟩
  ·rw[←Nat.eq_of_beq_eq_true q,←Option.some.inj h];exact .head _
  ·exact .tail _ (ih h)
theorem EK{h₁ h:Heap}(k: ∀b o,h₁.get? b=some o→h.get? b=some o)(hn:h.NoLimit)(e:z9 h₁.objs.toList=true):Bs h fns:=by
 unfold z9 Bo at e
 have e2:=a2 e
 have e4:=a2 (a2 e2)
 have e6:=a2 (a2 e4)
 refine⟨hn,?_,?_,?_,fun c f hc=> ?_,tF,fun f F hf=>let ⟨K,a,b⟩:=wm (List.all_eq_true.mp (a1 e) (f,F) (tH hf));⟨K,a.keeps k,b⟩,fun f T hf=>let ⟨K,a,b⟩:=tI (List.all_eq_true.mp (a2 e6) (f,T) (wu hf));⟨K,a.keeps k,b⟩,fun x v hx a ha=> ?_⟩
 ·obtain⟨o,ho⟩:=Option.isSome_iff_exists.mp (a1 e6)
  exact⟨o,k _ _ (jV ho)⟩
 ·have e3:=a1 (a2 e2)
  unfold mV at e3
  cases q:dictAt (rows h₁.objs.toList 40) mainGlobals with
  |none=>rw[q]at e3;exact bF e3
  |some es=>
   rw[q]at e3
   obtain⟨c,d,n,sl,ho⟩:=mD q
   refine⟨_,(Ap (jV ho) (a1 e3)).keeps k,fun x v hx=> ?_,fun b=>Option.isNone_iff_eq_none.mp (List.all_eq_true.mp (a2 (a2 e3)) b (rO b))⟩
   obtain⟨p,hp,hq⟩:=List.any_eq_true.mp hx
   rw[←pd (a1 hq),beq_iff_eq.mp (show(x==Str.ofString p.1)=true from a2 hq)]
   obtain⟨V,hV,g⟩:=mE (List.all_eq_true.mp (a1 (a2 e3)) p hp)
   exact⟨V,hV,B7 g⟩
 ·have e3:=a1 e4
  unfold uM at e3
  cases q:dictAt (rows h₁.objs.toList 40) builtinsNs with
  |none=>rw[q]at e3;exact bF e3
  |some es=>
   rw[q]at e3
   obtain⟨c,d,n,sl,ho⟩:=mD q
   refine⟨_,(Ap (jV ho) (a1 e3)).keeps k,fun b=> ?_⟩
   obtain⟨V,hV,g⟩:=mE (List.all_eq_true.mp (a2 e3) b (rO b))
   rw[hV,tG g]
 ·obtain⟨K,k1,k2,_⟩:=mC (List.all_eq_true.mp (a1 e2) (c,f) (mF hc))
  exact⟨K,k1.keeps k,k2⟩
 ·obtain⟨p,hp,hq⟩:=List.any_eq_true.mp hx
  have q1:=pd (a1 hq)
  have hf:=List.all_eq_true.mp (a1 (a2 e4)) p hp
  rcases ha with rfl|rfl
  ·obtain⟨K,k1,k2⟩:=qM hf q1
   exact⟨K,k1.keeps k,k2⟩
  ·unfold ix at hf
   rw[q1]at hf
   obtain⟨f,hc⟩:=Option.isSome_iff_exists.mp hf
   obtain⟨K,k1,_,k3⟩:=mC (List.all_eq_true.mp (a1 e2) (a,f) (mF hc))
   exact⟨K,k1.keeps k,k3⟩
noncomputable def Left(h:Heap):Prop:= ∃h₁:Heap,(∀b o,h₁.get? b=some o→h.get? b=some o)∧z9 h₁.objs.toList=true
theorem Left.of {h:Heap}(e:z9 h.objs.toList=true):Left h:=⟨h,fun _ _ x=>x,e⟩
theorem Left.keeps {h h':Heap}(x:Left h)(k: ∀b o,h.get? b=some o→h'.get? b=some o):Left h':=by
 obtain⟨h₁,q,e⟩:=x
 exact⟨h₁,fun b o z=>k b o (q b o z),e⟩
noncomputable def hook:Hook:=⟨Bool,fun s=>z9 s.heap.objs.toList,fun _=>true,fun _ h=>Left h,fun _ _ e=>Left.of e,fun _ _ _ x k=>x.keeps k⟩
theorem tJ{w:World}{h:Heap}(x:hook.says w h):Left h:=x
theorem rP{h:Heap}(x:Left h)(hn:h.NoLimit):Bs h fns:=by
 obtain⟨h₁,q,e⟩:=x
 exact EK q hn e
end Mine.Internal
end
section
open PySem PySem.W PySem.Calls PyProof.Rows
namespace Mine.Internal
theorem wx{tb:String→Option Builtin}{p:Program}{w:World}{n₀:Nat}{ann:Option Value}: ∀{n:Nat}{s s':SharedT}{t:Thread},F8 tb p w n₀ ann n s t=some s'→topRun tb p w n₀ ann n s.abs t=some s'.abs
 |0,_,_,_,h=>by cases h
 |n+1,s,s',t,h=>by
  unfold F8 at h
  unfold topRun
  cases ht:through t with
  |true=>rw[ht]at h;cases h;rfl
  |false=>
   rw[ht]at h
   cases hk:stepOk n₀ ann t with
   |false=>rw[hk]at h;cases h
   |true=>
    rw[hk]at h
    cases hs:stepT (denote tb) p w s t with
    |none=>rw[hs]at h;cases h
    |some r=>obtain⟨s₂,t₂⟩:=r;rw[hs]at h;rw[stepT_spec hs];exact wx h
theorem pf{life:Life}: ∀(l:List Obj)(t:BT)(n:Nat)(h:Heap),absHeap t n life=h→uN t n l=true→absHeap (sH t n l) (n+l.length) life=⟨(h.objs.toList++l).toArray,h.life⟩
 |[],t,n,h,e,_=>by
  rw[List.append_nil,List.length_nil,Nat.add_zero]
  show absHeap t n life=_
  rw[e]
 |o::r,t,n,h,e,k=>by
  unfold uN at k
  cases q:((t.ins n o).get n).isSome with
  |false=>rw[q]at k;cases k
  |true=>
   rw[q]at k
   have hp:=absHeap_ins (life:=life) q
   have:=pf r (t.ins n o) (n+1) _ hp k
   rw[e]at this
   rw[List.length_cons,show n+(r.length+1)=n+1+r.length from Nat.add_right_comm n r.length 1]
   show absHeap (sH (t.ins n o) (n+1) r) (n+1+r.length) life=_
   rw[this]
   show Heap.mk _ _=Heap.mk _ _
   congr 1
   simp[Heap.push]
theorem y9 {H:Heap}(k:uN .nil 0 H.objs.toList=true):absHeap (sH .nil 0 H.objs.toList) H.objs.size H.life=H:=by
 have e:absHeap .nil 0 H.life=⟨#[],H.life⟩:=rfl
 have:=pf (life:=H.life) H.objs.toList .nil 0 _ e k
 rw[Nat.zero_add,Array.length_toList]at this
 rw[this]
 simp
theorem pg{p q:Program}{loose:List Str}{Xt:Shared→Bool}{H:World→Heap}{d:Drawn}{k M N:Nat}
  (open_: ∀w:World,(fencedOpening treeTable p w N).map (fun s=>(s.heap,s.gens,s.drawn,s.toks))=some (H w,#[],d,k))
  (runA_: ∀(w:World)(os:OsState),sI yg p q loose Xt (H w) d k M w os=rA q loose)(runB_: ∀(w:World)(os:OsState),sJ yh p (H w) d k M w os=some true)(le:Nat.ble M N=true):
  LeftO p q loose Xt hook.obs hook.val N:=fun w=>by
 obtain⟨⟨h,gs,dd,kk,os⟩,e,e'⟩:=Option.map_eq_some_iff.mp (open_ w)
 obtain⟨rfl,rfl,rfl,rfl⟩:h=H w∧gs= #[]∧dd=d∧kk=k:=by simpa using e'
 have r:=runA_ w os
 unfold sI rA at r
 obtain⟨r1,r2⟩:=Prod.mk.inj r
 obtain⟨z1,z2⟩:=Bool.and_eq_true_iff.mp r1
 obtain⟨s',g,l⟩:=Option.map_eq_some_iff.mp r2
 obtain⟨l1,l⟩:=Prod.mk.inj l
 obtain⟨l2,l3⟩:=Prod.mk.inj l
 have rb:=runB_ w os
 unfold sJ at rb
 rw[g]at rb
 have l3:z9 s'.abs.heap.objs.toList=true:=Bp l3 (Option.some.inj rb)
 unfold Bq at g
 have t:=topRun_mono (N - M) _ _ _ _ (wx g)
 rw[show M+(N - M)=N from Nat.add_sub_of_le (Nat.le_of_ble_eq_true le)]at t
 have a0:(⟨sH .nil 0 (H w).objs.toList,(H w).objs.size,(H w).life,#[],dd,kk,os⟩:SharedT).abs=⟨H w,#[],dd,kk,os⟩:=by
  unfold SharedT.abs
  dsimp only
  rw[y9 z2]
 rw[a0]at t
 have tf:topFrom treeTable p w N ⟨H w,#[],dd,kk,os⟩=some s'.abs:=by
  unfold topFrom
  dsimp only
  rw[z1]
  show(match(true&&true)with|true=>(topRun _ _ _ _ _ _ _ _).bind _|false=>none)=_
  rw[t]
  show(match staticsOk (importedModules p.main.body) (H w) s'.abs.heap&&namesBound p s'.abs.heap&&gensDone s'.abs&&laidKept (H w) s'.abs.heap with|true=>_|false=>_)=_
  rw[l1]
 unfold openEnds
 rw[e]
 show(topFrom treeTable p w N _).map _=_
 rw[tf]
 have hh:hook.obs s'.abs=hook.val w:=by delta hook;with_reducible exact l3
 exact congrArg some (congr (congrArg Prod.mk l2) hh)
end Mine.Internal
end
section
namespace Mine.Internal.Q
open PySem
noncomputable def aQ(H:HH)(n k:Nat)(v:MV):Prop:=iX fun c d fs=>cC (H[n]? =some (.inst c d)) (ck c k= .plain) (H[d]? =some (.attrs fs)) (dS fs k=some v)
noncomputable def aX(H:HH)(n m f:Nat):Prop:=iX fun c d fs=>cC (H[n]? =some (.inst c d)) (ck c m= .meth f) (H[d]? =some (.attrs fs)) (dS fs m=none)
noncomputable def tK(H:HH)(n m c:Nat):Prop:= ∃o,H[n]? =some o∧jv o m=some c
theorem nB{H:HH}{n c d:Nat}(ho:H[n]? =some (.inst c d)):cz H (.ref n)=some (n,c,d):=by unfold cz;dsimp only;rw[ho]
theorem aQ.at {H:HH}{n k:Nat}{v:MV}(g:aQ H n k v):iq H (.ref n) k=some v:=by
 obtain⟨c,d,fs,h1,h2,h3,h4⟩:=g
 unfold iq
 rw[nB h1]
 dsimp only
 rw[h2]
 dsimp only
 rw[h3]
 exact h4
theorem wy{H:HH}{v:MV}{n c d j:Nat}{fs fs':List (Nat×MV)}(ho:H[n]? =some (.inst c d))(hc:ck c j= .plain)(ha:H[d]? =some (.attrs fs))(hb:(Nat.blt j 223&&Nat.blt fs.length 100)=true)(hp:aput fs j v=fs'):
  setAt (.ref n) j v H=some (H.set d (.attrs fs')):=by
 unfold setAt
 rw[nB ho]
 dsimp only
 rw[hc,ha]
 dsimp only
 rw[if_pos hb,hp]
section
variable{call:eZ}{fl:Bool}{loc loc2:Loc}{H H1 H2 H3 H4:HH}{e a b t o i:IE}{v x y u w:MV}
theorem aq:bo call fl (.c v) loc H=some (v,H):=rfl
theorem ab{i:Nat}(h:bU loc i=some v):bo call fl (.l i) loc H=some (v,H):=by
 show(bU loc i).map _=_
 rw[h];rfl
theorem bk{α β γ:Type}{z:Option (α×β)}{f:α→β→Option γ}{p:α}{q:β}{r:Option γ}(h:z=some (p,q))(g:f p q=r):eX z f=r:=by rw[h];exact g
theorem cG{γ:Type}{z:Option (Fl×Loc×HH)}{f:Fl→Loc→HH→Option γ}{p:Fl}{l:Loc}{q:HH}{r:Option γ}(h:z=some (p,l,q))(g:f p l q=r):mO z f=r:=by rw[h];exact g
theorem g7 {α β:Type}{z:Option α}{f:α→β}{p:α}(h:z=some p):z.map f=some (f p):=by rw[h];rfl
theorem fv{β γ:Type}{z:Option (MV×β)}{f g:β→Option γ}{q:β}{r:Option γ}(h:z=some (.bool true,q))(k:f q=r):ud z f g=r:=by rw[h];exact k
theorem iM{β γ:Type}{z:Option (MV×β)}{f g:β→Option γ}{q:β}{r:Option γ}(h:z=some (.bool false,q))(k:g q=r):ud z f g=r:=by rw[h];exact k
theorem eD{c:Bool}(h:bo call fl e loc H=some (.bool c,H1)):bo call fl (.not e) loc H=some (.bool (!c),H1):=by
 cases c with
 |true=>exact fv h rfl
 |false=>exact iM h rfl
theorem aZ{r:Option (MV×HH)}(h:bo call fl a loc H=some (.bool true,H1))(k:bo call fl b loc H1=r):bo call fl (.and a b) loc H=r:=fv h k
theorem bK(h:bo call fl a loc H=some (.bool false,H1)):bo call fl (.and a b) loc H=some (.bool false,H1):=iM h rfl
theorem fc(h:bo call fl a loc H=some (.bool true,H1)):bo call fl (.or a b) loc H=some (.bool true,H1):=fv h rfl
theorem cf{r:Option (MV×HH)}(h:bo call fl a loc H=some (.bool false,H1))(k:bo call fl b loc H1=r):bo call fl (.or a b) loc H=r:=iM h k
theorem wz{c d:Bool}(h:bo call fl a loc H=some (.bool c,H))(k:bo call fl b loc H=some (.bool d,H)):bo call fl (.and a b) loc H=some (.bool (c&&d),H):=by
 cases c with
 |true=>exact fv h k
 |false=>exact iM h rfl
theorem ez{c d:Bool}(h:bo call fl a loc H=some (.bool c,H))(k:bo call fl b loc H=some (.bool d,H)):bo call fl (.or a b) loc H=some (.bool (c||d),H):=by
 cases c with
 |true=>exact fv h rfl
 |false=>exact iM h k
theorem wA{c:Bool}(h:bo call fl a loc H=some (.bool c,H))(k:bo call fl b loc H=some (.bool true,H)):bo call fl (.or a b) loc H=some (.bool true,H):=(ez h k).trans (by rw[Bool.or_true])
theorem bI(h:bo call fl e loc H=some (.bool false,H1)):bo call fl (.not e) loc H=some (.bool true,H1):=eD h
theorem df(h:bo call fl e loc H=some (.bool true,H1)):bo call fl (.not e) loc H=some (.bool false,H1):=eD h
theorem dK{r:Option (MV×HH)}(h:bo call fl t loc H=some (.bool true,H1))(k:bo call fl a loc H1=r):bo call fl (.ife t a b) loc H=r:=fv h k
theorem dM{r:Option (MV×HH)}(h:bo call fl t loc H=some (.bool false,H1))(k:bo call fl b loc H1=r):bo call fl (.ife t a b) loc H=r:=iM h k
theorem nC{i:Int}(h:bo call fl a loc H=some (.int i,H1)):bo call fl (.usub a) loc H=some (.int (-i),H1):=bk h rfl
theorem aF{o:fz}{r:Option (MV×HH)}(h:bo call fl a loc H=some (x,H1))(k:bo call fl b loc H1=some (y,H2))(z:cI o x y H2=r):bo call fl (.bin o a b) loc H=r:=bk h (bk k z)
theorem au{o:jY}{c:Bool}(h:bo call fl a loc H=some (x,H1))(k:bo call fl b loc H1=some (y,H2))(z:aI o x y H2=some c):bo call fl (.cmp o a b) loc H=some (.bool c,H2):=
 bk h (bk k (by rw[z];rfl))
theorem ah{n k:Nat}(h:bo call fl e loc H=some (.ref n,H1))(g:aQ H1 n k v):bo call fl (.attr e k) loc H=some (v,H1):=bk h (by
 obtain⟨c,d,fs,h1,h2,h3,h4⟩:=g
 rw[nB h1]
 dsimp only
 rw[h2]
 dsimp only
 rw[h3]
 exact g7 h4)
theorem az(h:bo call fl a loc H=some (x,H1))(k:bo call fl b loc H1=some (y,H2))(z:bN x y H2=some v):bo call fl (.sub a b) loc H=some (v,H2):=bk h (bk k (by rw[z];rfl))
theorem eV{lo hi:IE}{r:Option (MV×HH)}(h:bo call fl e loc H=some (x,H1))(k:bo call fl lo loc H1=some (y,H2))(k2:bo call fl hi loc H2=some (u,H3))(z:dX x y u H3=r):bo call fl (.slc e lo hi) loc H=r:=bk h (bk k (bk k2 z))
theorem aB{f:Nat}{as:gy}{vs:List MV}{r:Option (MV×HH)}(h:dT call fl as loc H=some (vs,H1))(k:call fl f vs H1=r):bo call fl (.call f as) loc H=r:=bk h k
theorem aP{o:BK}{as:gy}{vs:List MV}{r:Option (MV×HH)}(h:dT call fl as loc H=some (vs,H1))(k:cu fl o vs H1=r):bo call fl (.bi o as) loc H=r:=bk h k
theorem B8 {c f:Nat}{as:gy}{vs:List MV}(i:dC dW c=some f)(h:dT call fl as loc H=some (vs,H1))(k:call fl f (.ref (H1.length+1)::vs) (H1++[.attrs [],.inst c H1.length])=some (.none,H2)):
  bo call fl (.new c as) loc H=some (.ref (H1.length+1),H2):=by
 show(match dC dW c with|some f=>_|none=>none)=_
 rw[i]
 exact bk h (bk k rfl)
theorem ax{m n f:Nat}{as:gy}{vs:List MV}{r:Option (MV×HH)}(h:bo call fl e loc H=some (.ref n,H1))(g:aX H1 n m f)(k:dT call fl as loc H1=some (vs,H2))(z:call fl f (.ref n::vs) H2=r):bo call fl (.meth e m as) loc H=r:=bk h (by
 obtain⟨c,d,fs,h1,h2,h3,h4⟩:=g
 dsimp only
 rw[h1]
 dsimp only
 rw[h2,h3]
 dsimp only
 rw[h4]
 exact bk k z)
theorem bP{m n c:Nat}{as:gy}{vs:List MV}{r:Option (MV×HH)}(h:bo call fl e loc H=some (.ref n,H1))(g:tK H1 n m c)(k:dT call fl as loc H1=some (vs,H2))(z:dm fl c n vs H2=r):bo call fl (.meth e m as) loc H=r:=bk h (by
 obtain⟨o,h1,h2⟩:=g
 dsimp only
 rw[h1]
 cases o with
 |inst c' d'=>cases h2
 |_=>
  dsimp only
  rw[h2]
  exact bk k z)
theorem bH{as:gy}{vs:List MV}(h:dT call fl as loc H=some (vs,H1))(b:Nat.ble vs.length 1000=true):bo call fl (.tup as) loc H=some (.tup vs,H1):=bk h (if_pos b)
theorem g8 {as:gy}{vs:List MV}(h:dT call fl as loc H=some (vs,H1))(b:Nat.ble vs.length 1000=true):bo call fl (.lst as) loc H=some (.ref H1.length,H1++[.list vs]):=bk h (if_pos b)
theorem af:dT call fl .nil loc H=some ([],H):=rfl
theorem aa{q:gy}{vs:List MV}(h:bo call fl e loc H=some (v,H1))(k:dT call fl q loc H1=some (vs,H2)):dT call fl (.cons e q) loc H=some (v::vs,H2):=bk h (bk k rfl)
theorem iO{elt src cond:IE}{caps:List Nat}{cs:List MV}(h:bo call false src loc H=some (v,H1))(c:jN loc caps=some cs)
  (k:compLoop (fun x h=>bo call false cond (x::cs) h) (fun x h=>bo call false elt (x::cs) h) v H1.length 200 0 (H1++[.list []])=some H2):bo call fl (.comp elt src cond caps) loc H=some (.ref H1.length,H2):=
 bk h (by rw[c];show Option.map _ _=_;rw[k];rfl)
theorem dN{i:Nat}(b:Nat.blt i loc.length=true):lF call fl (.loc i) v loc H=some (loc.set i v,H):=if_pos b
theorem tL{a0 a1:MV}{r:Loc}:lF call fl (.loc 1) v (a0::a1::r) H=some (a0::v::r,H):=dN (show Nat.ble 2 (r.length+2)=true from Nat.ble_eq_true_of_le (Nat.le_add_left 2 r.length))
theorem nD{a0 a1 a2:MV}{r:Loc}:lF call fl (.loc 2) v (a0::a1::a2::r) H=some (a0::a1::v::r,H):=dN (show Nat.ble 3 (r.length+3)=true from Nat.ble_eq_true_of_le (Nat.le_add_left 3 r.length))
theorem ph{a0 a1 a2 a3:MV}{r:Loc}:lF call fl (.loc 3) v (a0::a1::a2::a3::r) H=some (a0::a1::a2::v::r,H):=dN (show Nat.ble 4 (r.length+4)=true from Nat.ble_eq_true_of_le (Nat.le_add_left 4 r.length))
theorem ik{a0 a1 a2 a3 a4:MV}{r:Loc}:lF call fl (.loc 4) v (a0::a1::a2::a3::a4::r) H=some (a0::a1::a2::a3::v::r,H):=dN (show Nat.ble 5 (r.length+5)=true from Nat.ble_eq_true_of_le (Nat.le_add_left 5 r.length))
theorem t6 {a0 a1 a2 a3 a4 a5:MV}{r:Loc}:lF call fl (.loc 5) v (a0::a1::a2::a3::a4::a5::r) H=some (a0::a1::a2::a3::a4::v::r,H):=dN (show Nat.ble 6 (r.length+6)=true from Nat.ble_eq_true_of_le (Nat.le_add_left 6 r.length))
theorem xU{a0 a1 a2 a3 a4 a5 a6:MV}{r:Loc}:lF call fl (.loc 6) v (a0::a1::a2::a3::a4::a5::a6::r) H=some (a0::a1::a2::a3::a4::a5::v::r,H):=dN (show Nat.ble 7 (r.length+7)=true from Nat.ble_eq_true_of_le (Nat.le_add_left 7 r.length))
theorem Df{a0 a1 a2 a3 a4 a5 a6 a7:MV}{r:Loc}:lF call fl (.loc 7) v (a0::a1::a2::a3::a4::a5::a6::a7::r) H=some (a0::a1::a2::a3::a4::a5::a6::v::r,H):=dN (show Nat.ble 8 (r.length+8)=true from Nat.ble_eq_true_of_le (Nat.le_add_left 8 r.length))
theorem Hf{a0 a1 a2 a3 a4 a5 a6 a7 a8:MV}{r:Loc}:lF call fl (.loc 8) v (a0::a1::a2::a3::a4::a5::a6::a7::a8::r) H=some (a0::a1::a2::a3::a4::a5::a6::a7::v::r,H):=dN (show Nat.ble 9 (r.length+9)=true from Nat.ble_eq_true_of_le (Nat.le_add_left 9 r.length))
theorem Dg{a0 a1 a2 a3 a4 a5 a6 a7 a8 a9:MV}{r:Loc}:lF call fl (.loc 9) v (a0::a1::a2::a3::a4::a5::a6::a7::a8::a9::r) H=some (a0::a1::a2::a3::a4::a5::a6::a7::a8::v::r,H):=dN (show Nat.ble 10 (r.length+10)=true from Nat.ble_eq_true_of_le (Nat.le_add_left 10 r.length))
theorem pj{a0 a1 a2 a3 a4 a5 a6 a7 a8 a9 a10:MV}{r:Loc}:lF call fl (.loc 10) v (a0::a1::a2::a3::a4::a5::a6::a7::a8::a9::a10::r) H=some (a0::a1::a2::a3::a4::a5::a6::a7::a8::a9::v::r,H):=dN (show Nat.ble 11 (r.length+11)=true from Nat.ble_eq_true_of_le (Nat.le_add_left 11 r.length))
theorem Hg{a0 a1 a2 a3 a4 a5 a6 a7 a8 a9 a10 a11:MV}{r:Loc}:lF call fl (.loc 11) v (a0::a1::a2::a3::a4::a5::a6::a7::a8::a9::a10::a11::r) H=some (a0::a1::a2::a3::a4::a5::a6::a7::a8::a9::a10::v::r,H):=dN (show Nat.ble 12 (r.length+12)=true from Nat.ble_eq_true_of_le (Nat.le_add_left 12 r.length))
theorem EL{a0 a1 a2 a3 a4 a5 a6 a7 a8 a9 a10 a11 a12:MV}{r:Loc}:lF call fl (.loc 12) v (a0::a1::a2::a3::a4::a5::a6::a7::a8::a9::a10::a11::a12::r) H=some (a0::a1::a2::a3::a4::a5::a6::a7::a8::a9::a10::a11::v::r,H):=dN (show Nat.ble 13 (r.length+13)=true from Nat.ble_eq_true_of_le (Nat.le_add_left 13 r.length))
theorem Hh{a0 a1 a2 a3 a4 a5 a6 a7 a8 a9 a10 a11 a12 a13:MV}{r:Loc}:lF call fl (.loc 13) v (a0::a1::a2::a3::a4::a5::a6::a7::a8::a9::a10::a11::a12::a13::r) H=some (a0::a1::a2::a3::a4::a5::a6::a7::a8::a9::a10::a11::a12::v::r,H):=dN (show Nat.ble 14 (r.length+14)=true from Nat.ble_eq_true_of_le (Nat.le_add_left 14 r.length))
theorem bw{k:Nat}(h:bo call fl e loc H=some (x,H1))(z:setAt x k v H1=some H2):lF call fl (.attr e k) v loc H=some (loc,H2):=bk h (by rw[z];rfl)
theorem bp(h:bo call fl a loc H=some (x,H1))(k:bo call fl b loc H1=some (y,H2))(z:cT x y v H2=some H3):lF call fl (.sub a b) v loc H=some (loc,H3):=bk h (bk k (by rw[z];rfl))
theorem bX:gT call fl [] [] loc H=some (loc,H):=rfl
theorem aS{t:IT}{ts:List IT}{vs:List MV}{r:Option (Loc×HH)}(h:lF call fl t v loc H=some (loc2,H1))(k:gT call fl ts vs loc2 H1=r):gT call fl (t::ts) (v::vs) loc H=r:=bk h k
theorem aA{t:IT}(h:bo call fl e loc H=some (v,H1))(k:lF call fl t v loc H1=some (loc2,H2)):cU call fl (.assign t e) loc H=some (.next,loc2,H2):=bk h (bk k rfl)
theorem cN{ts:List IT}{vs:List MV}(h:bo call fl e loc H=some (.tup vs,H1))(k:gT call fl ts vs loc H1=some (loc2,H2)):cU call fl (.assignT ts e) loc H=some (.next,loc2,H2):=bk h (bk k rfl)
theorem za{ts:List IT}{vs:List MV}{n:Nat}(h:bo call fl e loc H=some (.ref n,H1))(g:H1[n]? =some (.list vs))(k:gT call fl ts vs loc H1=some (loc2,H2)):cU call fl (.assignT ts e) loc H=some (.next,loc2,H2):=bk h (by
 dsimp only
 rw[g]
 exact bk k rfl)
theorem zb{i:Nat}{o:fz}{c:Int}(g:bU loc i=some x)(h:bo call fl e loc H=some (v,H1))(k:ue o x v=some c)(b:Nat.blt i loc.length=true):cU call fl (.augL i o e) loc H=some (.next,loc.set i (.int c),H1):=by
 show(bU loc i).bind _=_
 rw[g]
 exact bk h (by rw[k];exact if_pos b)
theorem nE{k:Nat}{o:fz}{c:Int}{n:Nat}(h:bo call fl b loc H=some (.ref n,H1))(g:aQ H1 n k y)(h2:bo call fl e loc H1=some (v,H2))(w:ue o y v=some c)(z:setAt (.ref n) k (.int c) H2=some H3):cU call fl (.augA b k o e) loc H=some (.next,loc,H3):=
 bk h (by rw[g.at];exact bk h2 (by rw[w];exact g7 z))
theorem bu(h:bo call fl e loc H=some (v,H1)):cU call fl (.ex e) loc H=some (.next,loc,H1):=bk h rfl
theorem aK{p q:fY}{r:Option (Fl×Loc×HH)}(h:bo call fl e loc H=some (.bool true,H1))(k:bQ call fl p loc H1=r):cU call fl (.ite e p q) loc H=r:=fv h k
theorem aC{p q:fY}{r:Option (Fl×Loc×HH)}(h:bo call fl e loc H=some (.bool false,H1))(k:bQ call fl q loc H1=r):cU call fl (.ite e p q) loc H=r:=iM h k
theorem ar:bQ call fl .nil loc H=some (.next,loc,H):=rfl
theorem aM{q:fY}(h:bo call fl e loc H=some (v,H1)):bQ call fl (.cons (.ret e) q) loc H=some (.ret v,loc,H1):=cG (bk h rfl) rfl
theorem ae{s:IS}{q:fY}{loc1:Loc}{r:Option (Fl×Loc×HH)}(h:cU call fl s loc H=some (.next,loc1,H1))(k:bQ call fl q loc1 H1=r):bQ call fl (.cons s q) loc H=r:=cG h k
theorem B9 {s:IS}{q:fY}{loc1:Loc}(h:cU call fl s loc H=some (.ret v,loc1,H1)):bQ call fl (.cons s q) loc H=some (.ret v,loc1,H1):=cG h rfl
theorem zc{p q r:fY}{loc1:Loc}(h:bo call fl e loc H=some (.bool true,H1))(k:bQ call fl p loc H1=some (.cont,loc1,H2)):bQ call fl (.cons (.ite e p q) r) loc H=some (.cont,loc1,H2):=cG (fv h k) rfl
theorem zd{p q r:fY}{loc1:Loc}(h:bo call fl e loc H=some (.bool true,H1))(k:bQ call fl p loc H1=some (.brk,loc1,H2)):bQ call fl (.cons (.ite e p q) r) loc H=some (.brk,loc1,H2):=cG (fv h k) rfl
theorem ze{q:fY}:bQ call fl (.cons .cont q) loc H=some (.cont,loc,H):=rfl
theorem Ca{q:fY}:bQ call fl (.cons .brk q) loc H=some (.brk,loc,H):=rfl
theorem bE{p q r:fY}{loc1:Loc}(h:bo call fl e loc H=some (.bool true,H1))(k:bQ call fl p loc H1=some (.ret v,loc1,H2)):bQ call fl (.cons (.ite e p q) r) loc H=some (.ret v,loc1,H2):=cG (fv h k) rfl
theorem eE{ts:List Nat}{single:Bool}{q:fY}{r:Option (Fl×Loc×HH)}(h:bo call fl e loc H=some (v,H1))(k:ek (eI ts single) (fun l h=>bQ call fl q l h) v 64 0 loc H1=r):cU call fl (.forr ts single e q) loc H=r:=bk h k
theorem pk{γ:Type}{o:Option (Option MV)}{z r:Option γ}{f:MV→Option γ}(h:o=some (some x))(k:f x=r):Dw o z f=r:=by rw[h];exact k
theorem Aq{γ:Type}{o:Option (Option MV)}{z r:Option γ}{f:MV→Option γ}(h:o=some none)(k:z=r):Dw o z f=r:=by rw[h];exact k
theorem qN{α γ:Type}{o:Option α}{a:α}{f:α→Option γ}{r:Option γ}(h:o=some a)(k:f a=r):o.bind f=r:=by rw[h];exact k
theorem bR{bd:MV→Loc→Option Loc}{body:Loc→HH→Option (Fl×Loc×HH)}{j k:Nat}{loc1:Loc}{r:Option (Fl×Loc×HH)}(h:itemAt H v j=some (some x))(b:bd x loc=some loc1)(w:body loc1 H=some (.next,loc2,H2))
  (z:ek bd body v k (j+1) loc2 H2=r):ek bd body v (k+1) j loc H=r:=pk h (qN b (cG w z))
theorem cg{bd:MV→Loc→Option Loc}{body:Loc→HH→Option (Fl×Loc×HH)}{j k:Nat}(h:itemAt H v j=some none):ek bd body v (k+1) j loc H=some (.next,loc,H):=Aq h rfl
theorem lb{q:fY}{r:Option (Fl×Loc×HH)}(k:fS (fun l h=>bo call false t l h) (fun l h=>bQ call false q l h) 64 loc H=r):cU call fl (.whil t q) loc H=r:=k
theorem EM{ts:Loc→HH→Option (MV×HH)}{body:Loc→HH→Option (Fl×Loc×HH)}{k:Nat}{r:Option (Fl×Loc×HH)}(h:ts loc H=some (.bool true,H1))(w:body loc H1=some (.next,loc2,H2))(z:fS ts body k loc2 H2=r):fS ts body (k+1) loc H=r:=
 fv h (cG w z)
theorem zf{ts:Loc→HH→Option (MV×HH)}{body:Loc→HH→Option (Fl×Loc×HH)}{k:Nat}(h:ts loc H=some (.bool false,H1)):fS ts body (k+1) loc H=some (.next,loc,H1):=iM h rfl
theorem Cb{ts:Loc→HH→Option (MV×HH)}{body:Loc→HH→Option (Fl×Loc×HH)}{k:Nat}(h:ts loc H=some (.bool true,H1))(w:body loc H1=some (.ret v,loc2,H2)):fS ts body (k+1) loc H=some (.ret v,loc2,H2):=
 fv h (cG w rfl)
theorem zg{q r:fY}(k:fS (fun l h=>bo call false t l h) (fun l h=>bQ call false q l h) 64 loc H=some (.ret v,loc2,H1)):bQ call fl (.cons (.whil t q) r) loc H=some (.ret v,loc2,H1):=cG k rfl
theorem zh{bd:MV→Loc→Option Loc}{body:Loc→HH→Option (Fl×Loc×HH)}{j k:Nat}{loc1:Loc}{r:Option (Fl×Loc×HH)}(h:itemAt H v j=some (some x))(b:bd x loc=some loc1)(w:body loc1 H=some (.cont,loc2,H2))
  (z:ek bd body v k (j+1) loc2 H2=r):ek bd body v (k+1) j loc H=r:=pk h (qN b (cG w z))
theorem Cc{bd:MV→Loc→Option Loc}{body:Loc→HH→Option (Fl×Loc×HH)}{j k:Nat}{loc1:Loc}(h:itemAt H v j=some (some x))(b:bd x loc=some loc1)(w:body loc1 H=some (.brk,loc2,H2)):ek bd body v (k+1) j loc H=some (.next,loc2,H2):=pk h (qN b (cG w rfl))
theorem nF{test elt:MV→HH→Option (MV×HH)}{acc j k:Nat}(h:itemAt H v j=some none):compLoop test elt v acc (k+1) j H=some H:=Aq h rfl
theorem EN{test elt:MV→HH→Option (MV×HH)}{acc j k:Nat}{r:Option HH}(h:itemAt H v j=some (some x))(t:test x H=some (.bool true,H1))(e:elt x H1=some (y,H2))(m:dm false 0 acc [y] H2=some (u,H3))(z:compLoop test elt v acc k (j+1) H3=r):
  compLoop test elt v acc (k+1) j H=r:=pk h (fv t (bk e (bk m z)))
theorem Hi{test elt:MV→HH→Option (MV×HH)}{acc j k:Nat}{r:Option HH}(h:itemAt H v j=some (some x))(t:test x H=some (.bool false,H1))(z:compLoop test elt v acc k (j+1) H1=r):compLoop test elt v acc (k+1) j H=r:=pk h (iM t z)
end
theorem aw{n:Nat}{b:Bool}{f:Nat}{x:MV}{args:List MV}{H H':HH}{F:Fn}{loc loc':Loc}{v:MV}(h0:Nat.beq f 741=false)(hF:fns f=some F)(ha:(Nat.ble (x::args).length F.np&&Nat.ble (F.np - (x::args).length) F.dfl.length)=true)
  (hl:(x::args)++F.dfl.drop (F.dfl.length - (F.np - (x::args).length))++List.replicate (F.nl - F.np) .unb=loc)(h:bQ (ao fns n) b F.body loc H=some (.ret v,loc',H')):ao fns (n+1) b f (x::args) H=some (v,H'):=by
 show(if Nat.beq f 741 then _ else match fns f with|none=>none|some F=>fZ (ao fns n) F b (x::args) H)=_
 rw[h0,if_neg (by decide),hF]
 show(if(Nat.ble (x::args).length F.np&&Nat.ble (F.np - (x::args).length) F.dfl.length)=true then mO (bQ (ao fns n) b F.body ((x::args)++F.dfl.drop (F.dfl.length - (F.np - (x::args).length))++List.replicate (F.nl - F.np) MV.unb) H) _ else none)=_
 rw[if_pos ha,hl]
 exact cG h rfl
theorem aN{n:Nat}{b:Bool}{f:Nat}{x:MV}{args:List MV}{H H':HH}{F:Fn}{loc loc':Loc}(h0:Nat.beq f 741=false)(hF:fns f=some F)(ha:(Nat.ble (x::args).length F.np&&Nat.ble (F.np - (x::args).length) F.dfl.length)=true)
  (hl:(x::args)++F.dfl.drop (F.dfl.length - (F.np - (x::args).length))++List.replicate (F.nl - F.np) .unb=loc)(h:bQ (ao fns n) b F.body loc H=some (.next,loc',H')):ao fns (n+1) b f (x::args) H=some (.none,H'):=by
 show(if Nat.beq f 741 then _ else match fns f with|none=>none|some F=>fZ (ao fns n) F b (x::args) H)=_
 rw[h0,if_neg (by decide),hF]
 show(if(Nat.ble (x::args).length F.np&&Nat.ble (F.np - (x::args).length) F.dfl.length)=true then mO (bQ (ao fns n) b F.body ((x::args)++F.dfl.drop (F.dfl.length - (F.np - (x::args).length))++List.replicate (F.nl - F.np) MV.unb) H) _ else none)=_
 rw[if_pos ha,hl]
 exact cG h rfl
noncomputable def Gd(x y r:Int):Bool:=decide (0<(y - x).fmod r)&&decide (2*(y - x).fmod r<r)
noncomputable def num(R:Int)(p:Int):Int:=(R - 5+p).fmod R
theorem fm{R:Int}(hR:0<R)(x:Int):x.fmod R=x % R:=Int.fmod_eq_emod_of_nonneg x (Int.le_of_lt hR)
theorem wB{R:Int}(hR:0<R)(p k:Int):(num R p+k).fmod R=num R (p+k):=by
 unfold num
 rw[fm hR,fm hR,fm hR,Int.emod_add_emod]
 congr 1
 exact Int.add_assoc ..
theorem lg{R:Int}(hR:0<R)(a b:Int):(num R b - num R a).fmod R=(b - a) % R:=by
 unfold num
 rw[fm hR,fm hR,fm hR,←Int.sub_emod]
 congr 1
 rw[Int.add_comm (R - 5),Int.add_comm (R - 5),Int.add_sub_add_right]
theorem Cd{R x:Int}(hR:256≤R)(h:x<128):x<R:=Int.lt_of_lt_of_le h (Int.le_trans (by decide) hR)
theorem wC{R a b:Int}(hR:256≤R)(h:a - b<128): -R<b - a:=by have:=Int.neg_lt_neg (Cd hR h);rwa[Int.neg_sub]at this
theorem mG{R x:Int}(h0:0≤x)(h1:x<R):x % R=x:=Int.emod_eq_of_lt h0 h1
theorem rQ{R x:Int}(h0:x<0)(h1: -R<x):x % R=x+R:=by
 rw[←Int.add_emod_right,Int.emod_eq_of_lt (Int.le_of_lt (by have:=Int.add_lt_add_right h1 R;rwa[Int.add_left_neg]at this)) (by have:=Int.add_lt_add_right h0 R;rwa[Int.zero_add]at this)]
theorem jJ{R:Int}(hR:256≤R){a b:Int}(h:a≤b)(h':b - a<128):(num R b - num R a).fmod R=b - a:=by
 rw[lg (uW hR),mG (Int.sub_nonneg_of_le h) (Cd hR h')]
theorem pn{R:Int}(hR:256≤R){a b:Int}(h:b<a)(h':a - b<128):(num R b - num R a).fmod R=b - a+R:=by
 rw[lg (uW hR),rQ (Int.sub_neg_of_lt h) (wC hR h')]
theorem zi{R:Int}(hR:256≤R){a b:Int}(h:a - b<128)(h':b - a<128):Gd (num R a) (num R b) R=decide (a<b):=by
 unfold Gd
 by_cases q:a≤b
 ·rw[jJ hR q h']
  by_cases z:a<b
  ·simp[z];omega
  ·have: ¬0<b - a:=fun k=>z (Int.lt_of_sub_pos k)
   simp[z,this]
 ·rw[pn hR (Int.not_le.mp q) h]
  have z: ¬a<b:=fun k=>q (Int.le_of_lt k)
  have: ¬(2*(b - a+R)<R):=by omega
  simp[z,this]
theorem nG{R:Int}(hR:256≤R){a b:Int}(h:a - b<128)(h':b - a<128):num R a=num R b↔a=b:=by
 constructor
 ·intro e
  have h0:=lg (R:=R) (uW hR) a b
  rw[e,Int.sub_self]at h0
  have:(0:Int).fmod R=0:=by simp
  rw[this]at h0
  by_cases q:a≤b
  ·rw[mG (Int.sub_nonneg_of_le q) (Cd hR h')]at h0;exact(Int.sub_eq_zero.mp h0.symm).symm
  ·rw[rQ (Int.sub_neg_of_lt (Int.not_le.mp q)) (wC hR h)]at h0
   exact absurd h0 (Int.ne_of_lt (by have:=Int.add_lt_add_right (wC hR h) R;rwa[Int.add_left_neg]at this))
 ·rintro rfl;rfl
theorem dO{x r:Int}{H:HH}(hr:r≠0):cI .fmod (.int x) (.int r) H=some (.int (x.fmod r),H):=by
 show(if r=0 then none else some (MV.int (x.fmod r),H))=_
 rw[if_neg hr]
theorem Ce{n:Nat}{b:Bool}{x y r:Int}(hr:r≠0){H:HH}:ao fns (n+1) b 28 [.int x,.int y,.int r] H=some (.int ((x+y).fmod r),H):=by
 apply aw (F:=Ge) (loc:=[.int x,.int y,.int r]) rfl rfl rfl rfl
 unfold Ge;dsimp only
 repeat (first|exact ab rfl|exact dO hr|exact rfl|apply aM|apply aF)
theorem lh{n:Nat}{b:Bool}{x y r:Int}(hr:r≠0){H:HH}:ao fns (n+1) b 35 [.int x,.int y,.int r] H=some (.int ((y - x).fmod r),H):=by
 apply aw (F:=Gf) (loc:=[.int x,.int y,.int r]) rfl rfl rfl rfl
 unfold Gf;dsimp only
 repeat (first|exact ab rfl|exact dO hr|exact rfl|apply aM|apply aF)
theorem wD{n:Nat}{b:Bool}{x y r:Int}(hr:r≠0){H:HH}:ao fns (n+2) b 42 [.int x,.int y,.int r] H=some (.bool (Gd x y r),H):=by
 unfold Gd
 apply aw (F:=Gg) (loc:=[.int x,.int y,.int r,.unb]) rfl rfl rfl rfl
 unfold Gg;dsimp only
 repeat (first|exact aq|exact ab rfl|exact af|exact lh hr|exact mul2_ok|exact rfl|apply aM|apply ae|apply aA|apply dN|apply aB|apply aa|apply wz|apply au|apply aF)
theorem mH{n:Nat}{b:Bool}{R:Int}(hR:256≤R){x y:Int}(h:x - y<128)(h':y - x<128){H:HH}:ao fns (n+2) b 42 [.int (num R x),.int (num R y),.int R] H=some (.bool (decide (x<y)),H):=by
 rw[wD (show R≠0 from om hR),zi hR h h']
theorem wG{n:Nat}{b:Bool}{R:Int}(hR:256≤R){x y:Int}(h:x - y<128)(h':y - x<128){H:HH}:ao fns (n+3) b 49 [.int (num R x),.int (num R y),.int R] H=some (.bool (decide (x≤y)),H):=by
 have e:decide (x≤y)=(decide (num R x=num R y)||decide (x<y)):=by
  rw[Bool.eq_iff_iff]
  simp only[Bool.or_eq_true,decide_eq_true_eq,nG hR h h']
  exact Int.le_iff_eq_or_lt
 rw[e]
 apply aw (F:=Gh) (loc:=[.int (num R x),.int (num R y),.int R]) rfl rfl rfl rfl
 unfold Gh;dsimp only
 repeat (first|exact aq|exact ab rfl|exact af|exact mH hR h h'|exact rfl|apply aM|apply aB|apply aa|apply ez|apply au)
theorem g9 {n:Nat}{b:Bool}{R:Int}(hR:256≤R){x y:Int}(h:x≤y)(h':y - x<128){H:HH}:ao fns (n+1) b 35 [.int (num R x),.int (num R y),.int R] H=some (.int (y - x),H):=by
 rw[lh (show R≠0 from om hR),jJ hR h h']
theorem pq{n:Nat}{b:Bool}{R:Int}(hR:256≤R){x k:Int}{H:HH}:ao fns (n+1) b 28 [.int (num R x),.int k,.int R] H=some (.int (num R (x+k)),H):=by
 rw[Ce (show R≠0 from om hR),wB (uW hR)]
end Mine.Internal.Q
end
section
namespace Mine.Internal.Q
open PySem
noncomputable def bS:Option Int→MV
 |none=> .none
 |some i=> .int i
noncomputable def tM(R:Int):Option Int→MV
 |none=> .none
 |some i=> .int (num R i)
structure fw where
 R:Int
 dl:Int
structure aU where
 w:Int
 due:Option Int
 gap:Bool
structure eg where
 D:Option (Int×Int)
 W:Option (Int×Int)
 o:Bool
 S:Nat→List Int
 g:Int
noncomputable def tg(p:Int×Int):MV:= .tup [.int p.1,.int p.2]
noncomputable def ents(D W:Option (Int×Int))(o:Bool):List (Int×MV):=match D with
 |none=>match W with
  |none=>[]
  |some w=>[(4,tg w)]
 |some d=>match W with
  |none=>[(3,tg d)]
  |some w=>match o with
   |true=>[(3,tg d),(4,tg w)]
   |false=>[(4,tg w),(3,tg d)]
structure eA where
 nx:Int
 te:Int
 fa:Option Int
 hf:Bool
 ua:Option Int
 ry:Nat
 pr:Nat
structure ee where
 hv:List MV
 nx:Int
 fin:Option Int
 over:Bool
 ed:Int
 rd:Int
 a:aU
 st:Nat
 wait:Option Int
 urg:Option Int
structure bD where
 x:MO
 y:MO
 G:HH
noncomputable def cells(s:MO)(c:fw)(st:Nat)(a:aU)(wh:eg)(rc:eA)(B:ee)(x y:MO)(G:HH):HH:=
 s:: .list [.int 256,.int 4294967296]:: .list [.int 3,.int 9,.int 15,.int 16,.int 22]:: .list [.str 183,.str 183,.str 184,.str 185,.str 186,.str 189]:: .list [.int 0,.int 2,.int 3]::
 .attrs [(6,.int c.R),(15,.int 4),(59,.int 40),(60,.int 16),(61,.int 10),(62,.int 5),(63,.int 60),(23,.int 3),(64,.int c.dl),(65,.int 7)]:: .inst 839 5::
 .attrs [(66,.ref 6),(67,.tup [.int 1,.int 80]),(68,.tup [.int 2,.int 90]),(5,.str st),(69,.ref 10),(9,.ref 45),(70,.ref 18),(71,.ref 20),(72,.ref 22),(73,.ref 24),(74,.none),(75,.int 0),(76,.int 0),(77,.bool true)]:: .inst 882 7::
 .attrs [(37,.int 100),(6,.int c.R),(15,.int 4),(38,.int 101),(39,.int 101),(7,.int 101),(40,.ref 12),(41,.ref 14),(42,.bool false),(43,.bool false),(44,.bool false)]:: .inst 652 9::
 .attrs [(6,.int c.R),(17,.int 0),(16,.int 0),(35,.none),(36,.int 0)]:: .inst 461 11:: .attrs [(33,.int 40),(34,.bytes [])]:: .inst 426 13::
 .attrs [(27,.int 10),(28,.int 5),(16,.int 60),(29,.int 0),(30,.int 0),(31,.int 0)]:: .inst 326 15::
 .attrs [(8,.ref 16),(23,.int 3),(24,.int 0),(25,.none),(26,.int 0)]:: .inst 270 17::
 .attrs [(15,.int 4),(16,.int 44),(17,.int 8),(18,.int 44),(19,.int 0),(20,.int 0),(21,.bool false),(22,.bool false)]:: .inst 193 19::
 .attrs [(11,.int c.dl),(12,.int a.w),(13,bS a.due),(14,.bool a.gap)]:: .inst 109 21::
 .attrs [(17,.int 16),(54,.ref 25),(55,.ref 42),(56,.ref 43),(57,.none),(58,.int wh.g)]:: .inst 818 23::
 .list [.ref 26,.ref 27,.ref 28,.ref 29,.ref 30,.ref 31,.ref 32,.ref 33,.ref 34,.ref 35,.ref 36,.ref 37,.ref 38,.ref 39,.ref 40,.ref 41]::
 .list ((wh.S 0).map .int):: .list ((wh.S 1).map .int):: .list ((wh.S 2).map .int):: .list ((wh.S 3).map .int):: .list ((wh.S 4).map .int):: .list ((wh.S 5).map .int):: .list ((wh.S 6).map .int):: .list ((wh.S 7).map .int)::
 .list ((wh.S 8).map .int):: .list ((wh.S 9).map .int):: .list ((wh.S 10).map .int):: .list ((wh.S 11).map .int):: .list ((wh.S 12).map .int):: .list ((wh.S 13).map .int):: .list ((wh.S 14).map .int):: .list ((wh.S 15).map .int)::
 .list []:: .dictI (ents wh.D wh.W wh.o)::
 .attrs [(6,.int c.R),(33,.int 16),(15,.int 4),(39,.int (num c.R rc.nx)),(87,.ref rc.ry),(88,.ref 48),(89,.int (num c.R rc.te)),(90,tM c.R rc.fa),(10,.bool rc.hf),(91,tM c.R rc.ua)]:: .inst 1203 44::
 x:: .attrs [(6,.int c.R),(86,.ref rc.pr)]:: .inst 1069 47::y:: .list B.hv::
 .dictS [(200,.ref 50),(39,.int B.nx),(201,bS B.fin),(202,.bool B.over),(203,.int B.ed),(92,.int B.rd),(12,.int B.a.w),(13,bS B.a.due),(204,.bool B.a.gap),(5,.str B.st),(215,bS B.wait),(51,bS B.urg),(6,.int c.R),(11,.int c.dl)]::
 .list [.ref 8,.ref 51]::G
noncomputable def hp(s:MO)(c:fw)(st:Nat)(a:aU)(wh:eg)(rc:eA)(B:ee)(F:bD):HH:=cells s c st a wh rc B F.x F.y F.G
variable{s:MO}{c:fw}{st:Nat}{a:aU}{wh:eg}{rc:eA}{B:ee}{F:bD}
noncomputable def bD.at (F:bD)(i:Nat):Option MO:=match Nat.beq i 46 with
 |true=>some F.x
 |false=>match Nat.beq i 49 with
  |true=>some F.y
  |false=>match Nat.ble 53 i with
   |true=>F.G[i - 53]?
   |false=>none
noncomputable def bD.set (F:bD)(i:Nat)(o:MO):bD:=match Nat.beq i 46 with
 |true=>⟨o,F.y,F.G⟩
 |false=>match Nat.beq i 49 with
  |true=>⟨F.x,o,F.G⟩
  |false=>⟨F.x,F.y,F.G.set (i - 53) o⟩
noncomputable def bD.app (F:bD)(L:HH):bD:=⟨F.x,F.y,F.G++L⟩
noncomputable def bD.next (F:bD):Nat:=F.G.length+53
theorem dg{i:Nat}{o:MO}(h:F.at i=some o):(hp s c st a wh rc B F)[i]? =some o:=by
 unfold bD.at at h
 cases h1:Nat.beq i 46 with
 |true=>
  rw[h1]at h
  rw[Nat.eq_of_beq_eq_true h1]
  exact h
 |false=>
  rw[h1]at h
  dsimp only at h
  cases h2:Nat.beq i 49 with
  |true=>
   rw[h2]at h
   rw[Nat.eq_of_beq_eq_true h2]
   exact h
  |false=>
   rw[h2]at h
   dsimp only at h
   cases h3:Nat.ble 53 i with
   |false=>rw[h3]at h;cases h
   |true=>
    rw[h3]at h
    obtain⟨j,rfl⟩: ∃j,i=j+53:=⟨i - 53,by have:=Nat.le_of_ble_eq_true h3;exact Eq.symm (Nat.sub_add_cancel this)⟩
    exact h
theorem lj{i:Nat}{o:MO}(h:F.at i=some o)(o':MO):(hp s c st a wh rc B F).set i o'=hp s c st a wh rc B (F.set i o'):=by
 unfold bD.at at h
 unfold bD.set
 cases h1:Nat.beq i 46 with
 |true=>rw[Nat.eq_of_beq_eq_true h1];rfl
 |false=>
  rw[h1]at h
  dsimp only at h⊢
  cases h2:Nat.beq i 49 with
  |true=>rw[Nat.eq_of_beq_eq_true h2];rfl
  |false=>
   rw[h2]at h
   dsimp only at h
   cases h3:Nat.ble 53 i with
   |false=>rw[h3]at h;cases h
   |true=>
    obtain⟨j,rfl⟩: ∃j,i=j+53:=⟨i - 53,by have:=Nat.le_of_ble_eq_true h3;exact Eq.symm (Nat.sub_add_cancel this)⟩
    rfl
theorem aJ{F:bD}{L:HH}{i:Nat}{o:MO}(h:F.at i=some o):(F.app L).at i=some o:=by
 unfold bD.at at h⊢
 cases h1:Nat.beq i 46 with
 |true=>rw[h1]at h;exact h
 |false=>
  rw[h1]at h
  dsimp only at h⊢
  cases h2:Nat.beq i 49 with
  |true=>rw[h2]at h;exact h
  |false=>
   rw[h2]at h
   dsimp only at h⊢
   cases h3:Nat.ble 53 i with
   |false=>rw[h3]at h;cases h
   |true=>
    rw[h3]at h
    show(F.G++L)[i - 53]? =some o
    rw[List.getElem?_append_left (List.getElem?_eq_some_iff.mp h).1]
    exact h
noncomputable def bD.Le (F F':bD):Prop:= ∀i o,F.at i=some o→F'.at i=some o
theorem le_app{F:bD}{L:HH}:F.Le (F.app L):=fun _ _ h=>aJ h
theorem bD.Le.trans {F F' F'':bD}(x:F.Le F')(y:F'.Le F''):F.Le F'':=fun i o h=>y i o (x i o h)
theorem bD.Le.refl {F:bD}:F.Le F:=fun _ _ h=>h
theorem aH{F:bD}{o:MO}{L:HH}:(F.app (o::L)).at F.next=some o:=by
 have h3:Nat.ble 53 (F.G.length+53)=true:=Nat.ble_eq_true_of_le (Nat.le_add_left _ _)
 have h1:Nat.beq (F.G.length+53) 46=false:=by
  cases e:Nat.beq (F.G.length+53) 46 with
  |false=>rfl
  |true=>exact absurd (Nat.eq_of_beq_eq_true e) (Nat.ne_of_gt (Nat.lt_of_lt_of_le (by decide) (Nat.le_add_left 53 _)))
 have h2:Nat.beq (F.G.length+53) 49=false:=by
  cases e:Nat.beq (F.G.length+53) 49 with
  |false=>rfl
  |true=>exact absurd (Nat.eq_of_beq_eq_true e) (Nat.ne_of_gt (Nat.lt_of_lt_of_le (by decide) (Nat.le_add_left 53 _)))
 unfold bD.at bD.next
 rw[h1]
 dsimp only
 rw[h2]
 dsimp only
 rw[h3]
 show(F.G++o::L)[F.G.length+53 - 53]? =some o
 rw[Nat.add_sub_cancel,List.getElem?_append_right (Nat.le_refl _),Nat.sub_self]
 rfl
theorem aW{F:bD}{x:Nat}{o o':MO}(h:F.at x=some o):(F.set x o').at x=some o':=by
 unfold bD.at at h
 unfold bD.set bD.at
 cases h1:Nat.beq x 46 with
 |true=>rfl
 |false=>
  rw[h1]at h
  dsimp only at h⊢
  cases h2:Nat.beq x 49 with
  |true=>rfl
  |false=>
   rw[h2]at h
   dsimp only at h⊢
   cases h3:Nat.ble 53 x with
   |false=>rw[h3]at h;cases h
   |true=>
    rw[h3]at h
    exact List.getElem?_set_self (List.getElem?_eq_some_iff.mp h).1
theorem bf{F:bD}{x i:Nat}{o o':MO}(h:F.at x=some o)(hi:x≠i):(F.set x o').at i=F.at i:=by
 unfold bD.at at h⊢
 unfold bD.set
 cases h1:Nat.beq x 46 with
 |true=>
  dsimp only
  have:Nat.beq i 46=false:=by
   cases e:Nat.beq i 46 with
   |false=>rfl
   |true=>exact absurd ((Nat.eq_of_beq_eq_true h1).trans (Nat.eq_of_beq_eq_true e).symm) hi
  rw[this]
 |false=>
  rw[h1]at h
  dsimp only at h⊢
  cases h2:Nat.beq x 49 with
  |true=>
   dsimp only
   have:Nat.beq i 49=false:=by
    cases e:Nat.beq i 49 with
    |false=>rfl
    |true=>exact absurd ((Nat.eq_of_beq_eq_true h2).trans (Nat.eq_of_beq_eq_true e).symm) hi
   rw[this]
  |false=>
   rw[h2]at h
   dsimp only at h⊢
   cases h3:Nat.ble 53 x with
   |false=>rw[h3]at h;cases h
   |true=>
    cases h4:Nat.ble 53 i with
    |false=>rfl
    |true=>
     have k3:=Nat.le_of_ble_eq_true h3
     have k4:=Nat.le_of_ble_eq_true h4
     dsimp only
     rw[List.getElem?_set_ne (by omega)]
theorem dP{F:bD}{i:Nat}(h:F.next≤i):F.at i=none:=by
 unfold bD.next at h
 unfold bD.at
 have h1:Nat.beq i 46=false:=by
  cases e:Nat.beq i 46 with
  |false=>rfl
  |true=>exact absurd (Nat.eq_of_beq_eq_true e) (Nat.ne_of_gt (Nat.lt_of_lt_of_le (by decide) (Nat.le_trans (Nat.le_add_left 53 _) h)))
 have h2:Nat.beq i 49=false:=by
  cases e:Nat.beq i 49 with
  |false=>rfl
  |true=>exact absurd (Nat.eq_of_beq_eq_true e) (Nat.ne_of_gt (Nat.lt_of_lt_of_le (by decide) (Nat.le_trans (Nat.le_add_left 53 _) h)))
 rw[h1]
 dsimp only
 rw[h2]
 dsimp only
 rw[show Nat.ble 53 i=true from Nat.ble_eq_true_of_le (Nat.le_trans (Nat.le_add_left 53 (List.length F.G)) h)]
 exact List.getElem?_eq_none (Nat.le_sub_of_add_le h)
theorem bD.Le.put {F F':bD}{x:Nat}{o o':MO}(l:F.Le F')(h:F.at x=none)(h':F'.at x=some o):F.Le (F'.set x o'):=fun i q hi=>by
 rw[bf h' (fun e=>by subst e;rw[h]at hi;cases hi)]
 exact l i q hi
section
variable{call:eZ}{fl:Bool}{loc:Loc}{H H2:HH}{as:gy}{vs:List MV}
theorem bl(h:dT call fl as loc H=some (vs,hp s c st a wh rc B F))(b:Nat.ble vs.length 1000=true):bo call fl (.lst as) loc H=some (.ref F.next,hp s c st a wh rc B (F.app [.list vs])):=g8 h b
theorem rR{q f:Nat}(i:dC dW q=some f)(h:dT call fl as loc H=some (vs,hp s c st a wh rc B F))(k:call fl f (.ref (F.next+1)::vs) (hp s c st a wh rc B (F.app [.attrs [],.inst q F.next]))=some (.none,H2)):
  bo call fl (.new q as) loc H=some (.ref (F.next+1),H2):=B8 i h k
end
end Mine.Internal.Q
end
section
namespace Mine.Internal.Q
open PySem
section
variable{s:MO}{c:fw}{st:Nat}{a:aU}{wh:eg}{rc:eA}{B:ee}{F:bD}{i:Int}{o:Option Int}{b:Bool}{k:Nat}
 {w nx te ed rd R dl wg:Int}{du fa ua fin wait urg:Option Int}{ga hf ov wo:Bool}{D W:Option (Int×Int)}{S:Nat→List Int}{ry pr bs:Nat}{hv:List MV}{ba:aU}
theorem EP:aQ (hp s c st a wh rc B F) 6 6 (.int c.R):=⟨839,5,_,rfl,rfl,rfl,rfl⟩
theorem ER:aQ (hp s c st a wh rc B F) 6 65 (.int 7):=⟨839,5,_,rfl,rfl,rfl,rfl⟩
theorem wH:aQ (hp s c st a wh rc B F) 8 66 (.ref 6):=⟨882,7,_,rfl,rfl,rfl,rfl⟩
theorem ES:aQ (hp s c st a wh rc B F) 8 67 (.tup [.int 1,.int 80]):=⟨882,7,_,rfl,rfl,rfl,rfl⟩
theorem ET:aQ (hp s c st a wh rc B F) 8 68 (.tup [.int 2,.int 90]):=⟨882,7,_,rfl,rfl,rfl,rfl⟩
theorem fX:aQ (hp s c st a wh rc B F) 8 5 (.str st):=⟨882,7,_,rfl,rfl,rfl,rfl⟩
theorem pA:aQ (hp s c st a wh rc B F) 8 69 (.ref 10):=⟨882,7,_,rfl,rfl,rfl,rfl⟩
theorem lk:aQ (hp s c st a wh rc B F) 8 9 (.ref 45):=⟨882,7,_,rfl,rfl,rfl,rfl⟩
theorem EU:aQ (hp s c st a wh rc B F) 8 71 (.ref 20):=⟨882,7,_,rfl,rfl,rfl,rfl⟩
theorem fe:aQ (hp s c st a wh rc B F) 8 72 (.ref 22):=⟨882,7,_,rfl,rfl,rfl,rfl⟩
theorem iP:aQ (hp s c st a wh rc B F) 8 73 (.ref 24):=⟨882,7,_,rfl,rfl,rfl,rfl⟩
theorem EV:aQ (hp s c st a wh rc B F) 8 77 (.bool true):=⟨882,7,_,rfl,rfl,rfl,rfl⟩
theorem Cf:aQ (hp s c st a wh rc B F) 10 39 (.int 101):=⟨652,9,_,rfl,rfl,rfl,rfl⟩
theorem EW:aQ (hp s c st a wh rc B F) 10 7 (.int 101):=⟨652,9,_,rfl,rfl,rfl,rfl⟩
theorem wI:aQ (hp s c st a wh rc B F) 22 11 (.int c.dl):=⟨109,21,_,rfl,rfl,rfl,rfl⟩
theorem hG:aQ (hp s c st ⟨w,du,ga⟩ wh rc B F) 22 12 (.int w):=⟨109,21,_,rfl,rfl,rfl,rfl⟩
theorem lq:aQ (hp s c st ⟨w,du,ga⟩ wh rc B F) 22 13 (bS du):=⟨109,21,_,rfl,rfl,rfl,rfl⟩
theorem qO:aQ (hp s c st ⟨w,du,ga⟩ wh rc B F) 22 14 (.bool ga):=⟨109,21,_,rfl,rfl,rfl,rfl⟩
theorem qP:aQ (hp s c st a wh rc B F) 24 17 (.int 16):=⟨818,23,_,rfl,rfl,rfl,rfl⟩
theorem qQ:aQ (hp s c st a wh rc B F) 24 54 (.ref 25):=⟨818,23,_,rfl,rfl,rfl,rfl⟩
theorem wJ:aQ (hp s c st a wh rc B F) 24 55 (.ref 42):=⟨818,23,_,rfl,rfl,rfl,rfl⟩
theorem fH:aQ (hp s c st a wh rc B F) 24 56 (.ref 43):=⟨818,23,_,rfl,rfl,rfl,rfl⟩
theorem Cg:aQ (hp s c st a wh rc B F) 24 57 (.none):=⟨818,23,_,rfl,rfl,rfl,rfl⟩
theorem wK:aQ (hp s c st a ⟨D,W,wo,S,wg⟩ rc B F) 24 58 (.int wg):=⟨818,23,_,rfl,rfl,rfl,rfl⟩
theorem bL:aQ (hp s c st a wh rc B F) 45 6 (.int c.R):=⟨1203,44,_,rfl,rfl,rfl,rfl⟩
theorem wL:aQ (hp s c st a wh rc B F) 45 33 (.int 16):=⟨1203,44,_,rfl,rfl,rfl,rfl⟩
theorem wM:aQ (hp s c st a wh rc B F) 45 15 (.int 4):=⟨1203,44,_,rfl,rfl,rfl,rfl⟩
theorem cB:aQ (hp s c st a wh ⟨nx,te,fa,hf,ua,ry,pr⟩ B F) 45 39 (.int (num c.R nx)):=⟨1203,44,_,rfl,rfl,rfl,rfl⟩
theorem gr:aQ (hp s c st a wh ⟨nx,te,fa,hf,ua,ry,pr⟩ B F) 45 87 (.ref ry):=⟨1203,44,_,rfl,rfl,rfl,rfl⟩
theorem lr:aQ (hp s c st a wh rc B F) 45 88 (.ref 48):=⟨1203,44,_,rfl,rfl,rfl,rfl⟩
theorem fg:aQ (hp s c st a wh ⟨nx,te,fa,hf,ua,ry,pr⟩ B F) 45 89 (.int (num c.R te)):=⟨1203,44,_,rfl,rfl,rfl,rfl⟩
theorem fJ:aQ (hp s c st a wh ⟨nx,te,fa,hf,ua,ry,pr⟩ B F) 45 90 (tM c.R fa):=⟨1203,44,_,rfl,rfl,rfl,rfl⟩
theorem dQ:aQ (hp s c st a wh ⟨nx,te,fa,hf,ua,ry,pr⟩ B F) 45 10 (.bool hf):=⟨1203,44,_,rfl,rfl,rfl,rfl⟩
theorem cX:aQ (hp s c st a wh ⟨nx,te,fa,hf,ua,ry,pr⟩ B F) 45 91 (tM c.R ua):=⟨1203,44,_,rfl,rfl,rfl,rfl⟩
theorem pB:aQ (hp s c st a wh rc B F) 48 6 (.int c.R):=⟨1069,47,_,rfl,rfl,rfl,rfl⟩
theorem cY:aQ (hp s c st a wh ⟨nx,te,fa,hf,ua,ry,pr⟩ B F) 48 86 (.ref pr):=⟨1069,47,_,rfl,rfl,rfl,rfl⟩
theorem hJ:aX (hp s c st a wh rc B F) 22 84 85:=⟨109,21,_,rfl,rfl,rfl,rfl⟩
theorem qR:aX (hp s c st a wh rc B F) 22 85 92:=⟨109,21,_,rfl,rfl,rfl,rfl⟩
theorem zj:aX (hp s c st a wh rc B F) 22 105 78:=⟨109,21,_,rfl,rfl,rfl,rfl⟩
theorem zk:aX (hp s c st a wh rc B F) 22 127 99:=⟨109,21,_,rfl,rfl,rfl,rfl⟩
theorem nH:aX (hp s c st a wh rc B F) 22 131 106:=⟨109,21,_,rfl,rfl,rfl,rfl⟩
theorem Ci:aX (hp s c st a wh rc B F) 20 50 134:=⟨193,19,_,rfl,rfl,rfl,rfl⟩
theorem Cj:aX (hp s c st a wh rc B F) 10 80 586:=⟨652,9,_,rfl,rfl,rfl,rfl⟩
theorem Ck:aX (hp s c st a wh rc B F) 10 98 515:=⟨652,9,_,rfl,rfl,rfl,rfl⟩
theorem zl:aX (hp s c st a wh rc B F) 10 125 635:=⟨652,9,_,rfl,rfl,rfl,rfl⟩
theorem wN:aX (hp s c st a wh rc B F) 24 78 775:=⟨818,23,_,rfl,rfl,rfl,rfl⟩
theorem gC:aX (hp s c st a wh rc B F) 24 100 789:=⟨818,23,_,rfl,rfl,rfl,rfl⟩
theorem rS:aX (hp s c st a wh rc B F) 24 129 796:=⟨818,23,_,rfl,rfl,rfl,rfl⟩
theorem zm:aX (hp s c st a wh rc B F) 24 146 782:=⟨818,23,_,rfl,rfl,rfl,rfl⟩
theorem EX:aX (hp s c st a wh rc B F) 8 79 879:=⟨882,7,_,rfl,rfl,rfl,rfl⟩
theorem Cm:aX (hp s c st a wh rc B F) 8 102 871:=⟨882,7,_,rfl,rfl,rfl,rfl⟩
theorem Cn:aX (hp s c st a wh rc B F) 48 78 1017:=⟨1069,47,_,rfl,rfl,rfl,rfl⟩
theorem fK:aX (hp s c st a wh rc B F) 48 106 1045:=⟨1069,47,_,rfl,rfl,rfl,rfl⟩
theorem cS:aX (hp s c st a wh rc B F) 48 107 1010:=⟨1069,47,_,rfl,rfl,rfl,rfl⟩
theorem jW:aX (hp s c st a wh rc B F) 48 108 1024:=⟨1069,47,_,rfl,rfl,rfl,rfl⟩
theorem rT:aX (hp s c st a wh rc B F) 48 132 1038:=⟨1069,47,_,rfl,rfl,rfl,rfl⟩
theorem zo:aX (hp s c st a wh rc B F) 48 136 1066:=⟨1069,47,_,rfl,rfl,rfl,rfl⟩
theorem rU:aX (hp s c st a wh rc B F) 48 137 1052:=⟨1069,47,_,rfl,rfl,rfl,rfl⟩
theorem zp:aX (hp s c st a wh rc B F) 48 138 1003:=⟨1069,47,_,rfl,rfl,rfl,rfl⟩
theorem rV:aX (hp s c st a wh rc B F) 48 148 1031:=⟨1069,47,_,rfl,rfl,rfl,rfl⟩
theorem Co:aX (hp s c st a wh rc B F) 45 50 1116:=⟨1203,44,_,rfl,rfl,rfl,rfl⟩
theorem Cp:aX (hp s c st a wh rc B F) 45 51 1193:=⟨1203,44,_,rfl,rfl,rfl,rfl⟩
theorem Cq:aX (hp s c st a wh rc B F) 45 83 1123:=⟨1203,44,_,rfl,rfl,rfl,rfl⟩
theorem Cr:aX (hp s c st a wh rc B F) 45 92 1172:=⟨1203,44,_,rfl,rfl,rfl,rfl⟩
theorem rW:aX (hp s c st a wh rc B F) 45 109 1102:=⟨1203,44,_,rfl,rfl,rfl,rfl⟩
theorem rX:aX (hp s c st a wh rc B F) 45 110 1109:=⟨1203,44,_,rfl,rfl,rfl,rfl⟩
theorem zq:aX (hp s c st a wh rc B F) 45 111 1130:=⟨1203,44,_,rfl,rfl,rfl,rfl⟩
theorem zr:aX (hp s c st a wh rc B F) 45 112 1151:=⟨1203,44,_,rfl,rfl,rfl,rfl⟩
theorem gD:aX (hp s c st a wh rc B F) 45 113 1186:=⟨1203,44,_,rfl,rfl,rfl,rfl⟩
theorem zt:aX (hp s c st a wh rc B F) 45 130 1158:=⟨1203,44,_,rfl,rfl,rfl,rfl⟩
theorem jX:aX (hp s c st a wh rc B F) 45 133 1095:=⟨1203,44,_,rfl,rfl,rfl,rfl⟩
theorem zu:aX (hp s c st a wh rc B F) 45 134 1137:=⟨1203,44,_,rfl,rfl,rfl,rfl⟩
theorem zv:aX (hp s c st a wh rc B F) 45 135 1144:=⟨1203,44,_,rfl,rfl,rfl,rfl⟩
theorem zw:aX (hp s c st a wh rc B F) 45 140 1165:=⟨1203,44,_,rfl,rfl,rfl,rfl⟩
theorem zx:aX (hp s c st a wh rc B F) 45 141 1200:=⟨1203,44,_,rfl,rfl,rfl,rfl⟩
theorem Hj:setAt (.ref 8) 5 (.str k) (hp s c st a wh rc B F)=some (hp s c k a wh rc B F):=by kernel_rfl
theorem EY:setAt (.ref 8) 75 (.int 0) (hp s c st a wh rc B F)=some (hp s c st a wh rc B F):=by kernel_rfl
theorem qS:setAt (.ref 22) 12 (.int i) (hp s c st ⟨w,du,ga⟩ wh rc B F)=some (hp s c st ⟨i,du,ga⟩ wh rc B F):=by kernel_rfl
theorem Cs:setAt (.ref 22) 13 (.int i) (hp s c st ⟨w,du,ga⟩ wh rc B F)=some (hp s c st ⟨w,(some i),ga⟩ wh rc B F):=by kernel_rfl
theorem qT:setAt (.ref 22) 14 (.bool b) (hp s c st ⟨w,du,ga⟩ wh rc B F)=some (hp s c st ⟨w,du,b⟩ wh rc B F):=by kernel_rfl
theorem Ct:setAt (.ref 24) 58 (.int i) (hp s c st a ⟨D,W,wo,S,wg⟩ rc B F)=some (hp s c st a ⟨D,W,wo,S,i⟩ rc B F):=by kernel_rfl
theorem qU:setAt (.ref 45) 39 (.int (num c.R i)) (hp s c st a wh ⟨nx,te,fa,hf,ua,ry,pr⟩ B F)=some (hp s c st a wh ⟨i,te,fa,hf,ua,ry,pr⟩ B F):=by kernel_rfl
theorem Cu:setAt (.ref 45) 87 (.ref k) (hp s c st a wh ⟨nx,te,fa,hf,ua,ry,pr⟩ B F)=some (hp s c st a wh ⟨nx,te,fa,hf,ua,k,pr⟩ B F):=by kernel_rfl
theorem Cv:setAt (.ref 45) 89 (.int (num c.R i)) (hp s c st a wh ⟨nx,te,fa,hf,ua,ry,pr⟩ B F)=some (hp s c st a wh ⟨nx,i,fa,hf,ua,ry,pr⟩ B F):=by kernel_rfl
theorem Cw:setAt (.ref 45) 90 (.int (num c.R i)) (hp s c st a wh ⟨nx,te,fa,hf,ua,ry,pr⟩ B F)=some (hp s c st a wh ⟨nx,te,(some i),hf,ua,ry,pr⟩ B F):=by kernel_rfl
theorem Cy:setAt (.ref 45) 10 (.bool b) (hp s c st a wh ⟨nx,te,fa,hf,ua,ry,pr⟩ B F)=some (hp s c st a wh ⟨nx,te,fa,b,ua,ry,pr⟩ B F):=by kernel_rfl
theorem wO:setAt (.ref 45) 91 (.int (num c.R i)) (hp s c st a wh ⟨nx,te,fa,hf,ua,ry,pr⟩ B F)=some (hp s c st a wh ⟨nx,te,fa,hf,(some i),ry,pr⟩ B F):=by kernel_rfl
theorem zy:setAt (.ref 45) 91 (.none) (hp s c st a wh ⟨nx,te,fa,hf,ua,ry,pr⟩ B F)=some (hp s c st a wh ⟨nx,te,fa,hf,none,ry,pr⟩ B F):=by kernel_rfl
theorem nI:setAt (.ref 48) 86 (.ref k) (hp s c st a wh ⟨nx,te,fa,hf,ua,ry,pr⟩ B F)=some (hp s c st a wh ⟨nx,te,fa,hf,ua,ry,k⟩ B F):=by kernel_rfl
theorem wQ:bN (.ref 51) (.str 200) (hp s c st a wh rc B F)=some (.ref 50):=rfl
theorem pC:bN (.ref 51) (.str 39) (hp s c st a wh rc ⟨hv,nx,fin,ov,ed,rd,ba,bs,wait,urg⟩ F)=some (.int nx):=rfl
theorem tN:bN (.ref 51) (.str 201) (hp s c st a wh rc ⟨hv,nx,fin,ov,ed,rd,ba,bs,wait,urg⟩ F)=some (bS fin):=rfl
theorem wR:bN (.ref 51) (.str 202) (hp s c st a wh rc ⟨hv,nx,fin,ov,ed,rd,ba,bs,wait,urg⟩ F)=some (.bool ov):=rfl
theorem wU:bN (.ref 51) (.str 203) (hp s c st a wh rc ⟨hv,nx,fin,ov,ed,rd,ba,bs,wait,urg⟩ F)=some (.int ed):=rfl
theorem t7:bN (.ref 51) (.str 92) (hp s c st a wh rc ⟨hv,nx,fin,ov,ed,rd,ba,bs,wait,urg⟩ F)=some (.int rd):=rfl
theorem zA:bN (.ref 51) (.str 12) (hp s c st a wh rc ⟨hv,nx,fin,ov,ed,rd,⟨w,du,ga⟩,bs,wait,urg⟩ F)=some (.int w):=rfl
theorem Ar:bN (.ref 51) (.str 13) (hp s c st a wh rc ⟨hv,nx,fin,ov,ed,rd,⟨w,du,ga⟩,bs,wait,urg⟩ F)=some (bS du):=rfl
theorem Cz:bN (.ref 51) (.str 204) (hp s c st a wh rc ⟨hv,nx,fin,ov,ed,rd,⟨w,du,ga⟩,bs,wait,urg⟩ F)=some (.bool ga):=rfl
theorem b5:bN (.ref 51) (.str 5) (hp s c st a wh rc ⟨hv,nx,fin,ov,ed,rd,ba,bs,wait,urg⟩ F)=some (.str bs):=rfl
theorem Hk:bN (.ref 51) (.str 215) (hp s c st a wh rc ⟨hv,nx,fin,ov,ed,rd,ba,bs,wait,urg⟩ F)=some (bS wait):=rfl
theorem xV:bN (.ref 51) (.str 51) (hp s c st a wh rc ⟨hv,nx,fin,ov,ed,rd,ba,bs,wait,urg⟩ F)=some (bS urg):=rfl
theorem b6:bN (.ref 51) (.str 6) (hp s c st a wh rc B F)=some (.int c.R):=rfl
theorem H8:bN (.ref 51) (.str 11) (hp s c st a wh rc B F)=some (.int c.dl):=rfl
theorem Iu:cT (.ref 51) (.str 39) (.int i) (hp s c st a wh rc ⟨hv,nx,fin,ov,ed,rd,ba,bs,wait,urg⟩ F)=some (hp s c st a wh rc ⟨hv,i,fin,ov,ed,rd,ba,bs,wait,urg⟩ F):=by kernel_rfl
theorem Hl:cT (.ref 51) (.str 201) (.int i) (hp s c st a wh rc ⟨hv,nx,fin,ov,ed,rd,ba,bs,wait,urg⟩ F)=some (hp s c st a wh rc ⟨hv,nx,(some i),ov,ed,rd,ba,bs,wait,urg⟩ F):=by kernel_rfl
theorem CA:cT (.ref 51) (.str 202) (.bool b) (hp s c st a wh rc ⟨hv,nx,fin,ov,ed,rd,ba,bs,wait,urg⟩ F)=some (hp s c st a wh rc ⟨hv,nx,fin,b,ed,rd,ba,bs,wait,urg⟩ F):=by kernel_rfl
theorem Hm:cT (.ref 51) (.str 203) (.int i) (hp s c st a wh rc ⟨hv,nx,fin,ov,ed,rd,ba,bs,wait,urg⟩ F)=some (hp s c st a wh rc ⟨hv,nx,fin,ov,i,rd,ba,bs,wait,urg⟩ F):=by kernel_rfl
theorem Iv:cT (.ref 51) (.str 92) (.int i) (hp s c st a wh rc ⟨hv,nx,fin,ov,ed,rd,ba,bs,wait,urg⟩ F)=some (hp s c st a wh rc ⟨hv,nx,fin,ov,ed,i,ba,bs,wait,urg⟩ F):=by kernel_rfl
theorem tO:cT (.ref 51) (.str 12) (.int i) (hp s c st a wh rc ⟨hv,nx,fin,ov,ed,rd,⟨w,du,ga⟩,bs,wait,urg⟩ F)=some (hp s c st a wh rc ⟨hv,nx,fin,ov,ed,rd,⟨i,du,ga⟩,bs,wait,urg⟩ F):=by kernel_rfl
theorem Iw:cT (.ref 51) (.str 13) (.int i) (hp s c st a wh rc ⟨hv,nx,fin,ov,ed,rd,⟨w,du,ga⟩,bs,wait,urg⟩ F)=some (hp s c st a wh rc ⟨hv,nx,fin,ov,ed,rd,⟨w,some i,ga⟩,bs,wait,urg⟩ F):=by kernel_rfl
theorem EZ:cT (.ref 51) (.str 13) (.none) (hp s c st a wh rc ⟨hv,nx,fin,ov,ed,rd,⟨w,du,ga⟩,bs,wait,urg⟩ F)=some (hp s c st a wh rc ⟨hv,nx,fin,ov,ed,rd,⟨w,none,ga⟩,bs,wait,urg⟩ F):=by kernel_rfl
theorem CB:cT (.ref 51) (.str 204) (.bool b) (hp s c st a wh rc ⟨hv,nx,fin,ov,ed,rd,⟨w,du,ga⟩,bs,wait,urg⟩ F)=some (hp s c st a wh rc ⟨hv,nx,fin,ov,ed,rd,⟨w,du,b⟩,bs,wait,urg⟩ F):=by kernel_rfl
theorem w5:cT (.ref 51) (.str 5) (.str k) (hp s c st a wh rc ⟨hv,nx,fin,ov,ed,rd,ba,bs,wait,urg⟩ F)=some (hp s c st a wh rc ⟨hv,nx,fin,ov,ed,rd,ba,k,wait,urg⟩ F):=by kernel_rfl
theorem E0:cT (.ref 51) (.str 215) (.int i) (hp s c st a wh rc ⟨hv,nx,fin,ov,ed,rd,ba,bs,wait,urg⟩ F)=some (hp s c st a wh rc ⟨hv,nx,fin,ov,ed,rd,ba,bs,(some i),urg⟩ F):=by kernel_rfl
theorem As:cT (.ref 51) (.str 215) (.none) (hp s c st a wh rc ⟨hv,nx,fin,ov,ed,rd,ba,bs,wait,urg⟩ F)=some (hp s c st a wh rc ⟨hv,nx,fin,ov,ed,rd,ba,bs,none,urg⟩ F):=by kernel_rfl
theorem Iy:cT (.ref 51) (.str 51) (.int i) (hp s c st a wh rc ⟨hv,nx,fin,ov,ed,rd,ba,bs,wait,urg⟩ F)=some (hp s c st a wh rc ⟨hv,nx,fin,ov,ed,rd,ba,bs,wait,(some i)⟩ F):=by kernel_rfl
theorem Hn:cT (.ref 51) (.str 51) (.none) (hp s c st a wh rc ⟨hv,nx,fin,ov,ed,rd,ba,bs,wait,urg⟩ F)=some (hp s c st a wh rc ⟨hv,nx,fin,ov,ed,rd,ba,bs,wait,none⟩ F):=by kernel_rfl
theorem zB:(hp s c st a wh rc B F)[50]? =some (.list B.hv):=rfl
end
theorem E1 {n:Nat}{H:HH}:ao fns (n+40) true 1294 [] H=some (.bool true,H):=by kernel_rfl
section
variable{n:Nat}{b:Bool}{s:MO}{c:fw}{st:Nat}{a:aU}{wh:eg}{rc:eA}{B:ee}{F:bD}
noncomputable def gv(dl:Int)(a:aU)(io:Bool)(hh:Bool):Bool:= !io||(a.gap||(hh||(decide (dl≤0)||decide (2≤a.w+1))))
noncomputable def jj(dl:Int)(a:aU)(io:Bool)(now:Int)(hh:Bool):aU:=match gv dl a io hh with
 |true=>⟨2,a.due,hh|| !io⟩
 |false=>⟨a.w+1,some (a.due.getD (now+dl)),hh|| !io⟩
noncomputable def hK(a:aU)(now:Int):Bool:=decide (2≤a.w)||match a.due with
 |none=>false
 |some d=>decide (d≤now)
theorem CC:ao fns (n+1) b 85 [.ref 22] (hp s c st a wh rc B F)=some (.none,hp s c st {a with w:=2} wh rc B F):=by kernel_rfl
theorem Iz:ao fns (n+1) b 99 [.ref 22] (hp s c st a wh rc B F)=some (.none,hp s c st ⟨0,none,a.gap⟩ wh rc B F):=by kernel_rfl
theorem CD:ao fns (n+1) b 106 [.ref 22] (hp s c st a wh rc B F)=some (bS a.due,hp s c st a wh rc B F):=by kernel_rfl
theorem H9 {now:Int}:ao fns (n+1) b 92 [.ref 22,.int now] (hp s c st a wh rc B F)=some (.bool (hK a now),hp s c st a wh rc B F):=by
 unfold hK
 cases h:decide (2≤a.w)with
 |true=>
  have z:aI .ge (.int a.w) (.int 2) (hp s c st a wh rc B F)=some true:=congrArg some h
  apply aw (F:=Bb) (loc:=[.ref 22,.int now]) rfl rfl rfl rfl;unfold Bb;dsimp only
  apply bE;apply au;apply ah;exact ab rfl;exact hG;exact aq;(with_reducible assumption);apply aM;exact aq
 |false=>
  have z:aI .ge (.int a.w) (.int 2) (hp s c st a wh rc B F)=some false:=congrArg some h
  rw[Bool.false_or]
  obtain⟨w,due,g⟩:=a
  cases due with
  |none=>
   apply aw (F:=Bb) (loc:=[.ref 22,.int now]) rfl rfl rfl rfl;unfold Bb;dsimp only
   apply ae;apply aC;apply au;apply ah;exact ab rfl;exact hG;exact aq;(with_reducible assumption);exact ar;apply aM;apply bK;apply au;apply ah;exact ab rfl;exact lq;exact aq;exact rfl
  |some d=>
   apply aw (F:=Bb) (loc:=[.ref 22,.int now]) rfl rfl rfl rfl;unfold Bb;dsimp only
   apply ae;apply aC;apply au;apply ah;exact ab rfl;exact hG;exact aq;(with_reducible assumption);exact ar;apply aM;apply aZ;apply au;apply ah;exact ab rfl;exact lq;exact aq;exact rfl;apply au;apply ah;exact ab rfl;exact lq;exact ab rfl;exact rfl
theorem IA{io hh:Bool}{now:Int}: ∃v,ao fns (n+2) b 78 [.ref 22,.bool io,.int now,.bool hh] (hp s c st a wh rc B F)=some (v,hp s c st (jj c.dl a io now hh) wh rc B F):=by
 unfold jj
 have e0:bo (ao fns (n+1)) b (.or (.not (.l 1)) (.or (.l 4) (.or (.l 3) (.or (.cmp .le (.attr (.l 0) 11) (.c (.int 0))) (.cmp .ge (.attr (.l 0) 12) (.c (.int 2))))))) [.ref 22,.bool io,.int now,.bool hh,.bool a.gap] (hp s c st ⟨a.w+1,a.due,hh|| !io⟩ wh rc B F)=
   some (.bool (gv c.dl a io hh),hp s c st ⟨a.w+1,a.due,hh|| !io⟩ wh rc B F):=by
  unfold gv
  apply ez;apply eD;exact ab rfl;apply ez;exact ab rfl;apply ez;exact ab rfl;apply ez;apply au;apply ah;exact ab rfl;exact wI;exact aq;exact rfl;apply au;apply ah;exact ab rfl;exact hG;exact aq;exact rfl
 cases h:gv c.dl a io hh with
 |true=>
  rw[h]at e0
  refine⟨.str 205,?_⟩
  apply aw (F:=Ba) (loc:=[.ref 22,.bool io,.int now,.bool hh,.unb]) rfl rfl rfl rfl;unfold Ba;dsimp only
  apply ae;apply aA;apply ah;exact ab rfl;exact qO;exact ik;apply ae;apply aA;apply ez;exact ab rfl;apply eD;exact ab rfl;apply bw;exact ab rfl;exact qT;apply ae;apply nE;exact ab rfl;exact hG;exact aq;exact rfl;exact qS;apply bE;exact e0;apply ae;apply bu;apply ax;exact ab rfl;exact hJ;exact af;exact CC;apply aM;exact aq
 |false=>
  rw[h]at e0
  refine⟨.str 197,?_⟩
  obtain⟨w,due,g⟩:=a
  cases due with
  |none=>
   apply aw (F:=Ba) (loc:=[.ref 22,.bool io,.int now,.bool hh,.unb]) rfl rfl rfl rfl;unfold Ba;dsimp only
   apply ae;apply aA;apply ah;exact ab rfl;exact qO;exact ik;apply ae;apply aA;apply ez;exact ab rfl;apply eD;exact ab rfl;apply bw;exact ab rfl;exact qT;apply ae;apply nE;exact ab rfl;exact hG;exact aq;exact rfl;exact qS;apply ae
   apply aC
   exact e0;exact ar;apply ae;apply aK;apply au;apply ah;exact ab rfl;exact lq;exact aq;exact rfl;apply ae;apply aA;apply aF;exact ab rfl;apply ah;exact ab rfl;exact wI;exact rfl;apply bw;exact ab rfl;exact Cs;exact ar;apply aM;exact aq
  |some d=>
   apply aw (F:=Ba) (loc:=[.ref 22,.bool io,.int now,.bool hh,.unb]) rfl rfl rfl rfl;unfold Ba;dsimp only
   apply ae;apply aA;apply ah;exact ab rfl;exact qO;exact ik;apply ae;apply aA;apply ez;exact ab rfl;apply eD;exact ab rfl;apply bw;exact ab rfl;exact qT;apply ae;apply nE;exact ab rfl;exact hG;exact aq;exact rfl;exact qS;apply ae
   apply aC
   exact e0;exact ar;apply ae;apply aC;apply au;apply ah;exact ab rfl;exact lq;exact aq;exact rfl;exact ar;apply aM;exact aq
end
section
variable{D W:Option (Int×Int)}{o:Bool}{v:Int×Int}
theorem E2:dB (ents D W o) 3=D.map tg:=by cases D<;>cases W<;>cases o<;>rfl
theorem E3:dB (ents D W o) 4=W.map tg:=by cases D<;>cases W<;>cases o<;>rfl
theorem Ho:dB (ents D W o) 1=none:=by cases D<;>cases W<;>cases o<;>rfl
theorem Hp:dB (ents D W o) 2=none:=by cases D<;>cases W<;>cases o<;>rfl
theorem Au:Nat.ble (ents D W o).length 1000=true:=by cases D<;>cases W<;>cases o<;>rfl
theorem Hq:idel (ents D W o) 3=ents none W o:=by cases D<;>cases W<;>cases o<;>rfl
theorem Hr:idel (ents D W o) 4=ents D none o:=by cases D<;>cases W<;>cases o<;>rfl
theorem Hs:iput (ents none W o) 3 (tg v)=ents (some v) W false:=by cases W<;>cases o<;>rfl
theorem Ht:iput (ents D none o) 4 (tg v)=ents D (some v) true:=by cases D<;>cases o<;>rfl
end
theorem pD: ∀l:List Int,ju (l.map .int)=true
 |[]=>rfl
 |_::r=>pD r
theorem pE(k:Int): ∀l:List Int,∃q,gS (l.map .int) (.int k)=some q∧(q=true→ ∃r:List Int,gK k (l.map .int)=some (r.map .int)∧r.length≤l.length)
 |[]=>⟨false,rfl,nofun⟩
 |x::r=>by
  obtain⟨q,h1,h2⟩:=pE k r
  refine⟨decide (x=k)||q,?_,fun hq=> ?_⟩
  ·show(match gS (r.map .int) (.int k)with|some b=>some (decide (x=k)||b)|none=>none)=_
   rw[h1]
  ·show∃r':List Int,(if x=k then some (r.map .int)else(gK k (r.map .int)).map (.int x:: ·))=some (r'.map .int)∧_
   cases e:decide (x=k)with
   |true=>exact⟨r,if_pos (of_decide_eq_true e),Nat.le_succ _⟩
   |false=>
    rw[e]at hq
    obtain⟨r',h3,h4⟩:=h2 hq
    refine⟨x::r',?_,Nat.succ_le_succ h4⟩
    rw[if_neg (of_decide_eq_false e),h3]
    rfl
noncomputable def pF(S:Nat→List Int)(i:Nat)(l:List Int)(j:Nat):List Int:=match Nat.beq i j with
 |true=>l
 |false=>S j
noncomputable def SB(S:Nat→List Int)(m:Nat):Prop:= ∀i,i<16→(S i).length≤m
section
variable{n:Nat}{b:Bool}{s:MO}{c:fw}{st:Nat}{a:aU}{wh:eg}{rc:eA}{B:ee}{F:bD}
theorem nJ{P:Nat→Prop}(h0:P 0)(h1:P 1)(h2:P 2)(h3:P 3)(h4:P 4)(h5:P 5)(h6:P 6)(h7:P 7)(h8:P 8)(h9:P 9)(h10:P 10)(h11:P 11)(h12:P 12)(h13:P 13)(h14:P 14)(h15:P 15): ∀i,i<16→P i
 |0,_=>h0|1,_=>h1|2,_=>h2|3,_=>h3|4,_=>h4|5,_=>h5|6,_=>h6|7,_=>h7|8,_=>h8|9,_=>h9|10,_=>h10|11,_=>h11|12,_=>h12|13,_=>h13|14,_=>h14|15,_=>h15
 |i+16,h=>absurd h (by omega)
theorem iQ: ∀i,i<16→(hp s c st a wh rc B F)[26+i]? =some (.list ((wh.S i).map .int)):=nJ rfl rfl rfl rfl rfl rfl rfl rfl rfl rfl rfl rfl rfl rfl rfl rfl
theorem slot_set{l:List Int}: ∀i,i<16→(hp s c st a wh rc B F).set (26+i) (.list (l.map .int))=hp s c st a {wh with S:=pF wh.S i l} rc B F:=nJ rfl rfl rfl rfl rfl rfl rfl rfl rfl rfl rfl rfl rfl rfl rfl rfl
theorem wV: ∀i:Nat,i<16→bN (.ref 25) (.int i) (hp s c st a wh rc B F)=some (.ref (26+i)):=nJ rfl rfl rfl rfl rfl rfl rfl rfl rfl rfl rfl rfl rfl rfl rfl rfl
theorem pG(k:Int):aI .isin (.int k) (.ref 43) (hp s c st a wh rc B F)=some (dB (ents wh.D wh.W wh.o) k).isSome:=rfl
noncomputable def fL(t:Int):Nat:=(t.fmod 16).toNat
theorem fM(t:Int):fL t<16:=(Int.toNat_lt (Int.fmod_nonneg_of_pos t (by decide))).mpr (Int.fmod_lt_of_pos t (by decide))
theorem slot_of(t:Int):t.fmod 16=(fL t:Int):=(Int.toNat_of_nonneg (Int.fmod_nonneg_of_pos t (by decide))).symm
theorem lu(t:Int):bN (.ref 25) (.int (t.fmod 16)) (hp s c st a wh rc B F)=some (.ref (26+fL t)):=by
 rw[slot_of]
 exact wV _ (fM t)
theorem qV{k:Int}{v:MV}(h:dB (ents wh.D wh.W wh.o) k=some v):aI .isin (.int k) (.ref 43) (hp s c st a wh rc B F)=some true:=by rw[pG,h];rfl
theorem wW{k:Int}(h:dB (ents wh.D wh.W wh.o) k=none):aI .isin (.int k) (.ref 43) (hp s c st a wh rc B F)=some false:=by rw[pG,h];rfl
theorem Av{k:Int}(h:dB (ents wh.D wh.W wh.o) k=none):ao fns (n+1) b 796 [.ref 24,.int k] (hp s c st a wh rc B F)=some (.none,hp s c st a wh rc B F):=by
 apply aw (F:=uq) (loc:=[.ref 24,.int k]) rfl rfl rfl rfl;unfold uq;dsimp only
 apply aM;apply dM;apply au;exact ab rfl;apply ah;exact ab rfl;exact fH;exact wW h;exact aq
theorem Aw{k:Int}{t:Int}{g:MV}(h:dB (ents wh.D wh.W wh.o) k=some (.tup [.int t,g])):ao fns (n+1) b 796 [.ref 24,.int k] (hp s c st a wh rc B F)=some (.int t,hp s c st a wh rc B F):=by
 have z:bN (.ref 43) (.int k) (hp s c st a wh rc B F)=some (.tup [.int t,g]):=h
 apply aw (F:=uq) (loc:=[.ref 24,.int k]) rfl rfl rfl rfl;unfold uq;dsimp only
 apply aM;apply dK;apply au;exact ab rfl;apply ah;exact ab rfl;exact fH;exact qV h;apply az;apply az;apply ah;exact ab rfl;exact fH;exact ab rfl;exact z;exact aq;exact rfl
theorem CE:ao fns (n+1) b 796 [.ref 24,.int 3] (hp s c st a wh rc B F)=some (bS (wh.D.map (·.1)),hp s c st a wh rc B F):=by
 have h:dB (ents wh.D wh.W wh.o) 3=wh.D.map tg:=E2
 cases e:wh.D with
 |none=>exact Av (h.trans (congrArg (Option.map tg) e))
 |some t=>exact Aw (h.trans (congrArg (Option.map tg) e))
theorem CF:ao fns (n+1) b 796 [.ref 24,.int 4] (hp s c st a wh rc B F)=some (bS (wh.W.map (·.1)),hp s c st a wh rc B F):=by
 have h:dB (ents wh.D wh.W wh.o) 4=wh.W.map tg:=E3
 cases e:wh.W with
 |none=>exact Av (h.trans (congrArg (Option.map tg) e))
 |some t=>exact Aw (h.trans (congrArg (Option.map tg) e))
theorem Hu{t:Int}:ao fns (n+1) b 782 [.ref 24,.int t] (hp s c st a wh rc B F)=some (.ref (26+fL t),hp s c st a wh rc B F):=by
 apply aw (F:=Bg) (loc:=[.ref 24,.int t]) rfl rfl rfl rfl;unfold Bg;dsimp only
 apply ae;apply aC;apply bK;apply au;apply ah;exact ab rfl;exact Cg;exact aq;exact rfl;exact ar;apply aM;apply az;apply ah;exact ab rfl;exact qQ;apply aF;exact ab rfl;apply ah;exact ab rfl;exact qP;exact dO (by decide);exact lu _
theorem rY{k:Int}(h:dB (ents wh.D wh.W wh.o) k=none):ao fns (n+1) b 789 [.ref 24,.int k] (hp s c st a wh rc B F)=some (.none,hp s c st a wh rc B F):=by
 apply aN (F:=qc) (loc:=[.ref 24,.int k,.unb,.unb,.unb]) rfl rfl rfl rfl;unfold qc;dsimp only
 apply ae;apply aC;apply au;exact ab rfl;apply ah;exact ab rfl;exact fH;exact wW h;exact ar;exact ar
theorem wX:ao fns (n+1) b 789 [.ref 24,.int 1] (hp s c st a wh rc B F)=some (.none,hp s c st a wh rc B F):=rY Ho
theorem wY:ao fns (n+1) b 789 [.ref 24,.int 2] (hp s c st a wh rc B F)=some (.none,hp s c st a wh rc B F):=rY Hp
theorem wZ{k:Int}{v:MV}(h:dB (ents wh.D wh.W wh.o) k=some v){D W:Option (Int×Int)}{o:Bool}(g:idel (ents wh.D wh.W wh.o) k=ents D W o):
  dm b 4 43 [.int k] (hp s c st a wh rc B F)=some (v,hp s c st a {wh with D:=D,W:=W,o:=o} rc B F):=by
 show(if Nat.ble (ents wh.D wh.W wh.o).length 1000 then match dB (ents wh.D wh.W wh.o) k with|some w=>some (w,_)|none=>none else none)=_
 rw[if_pos Au,h,g]
 rfl
theorem rZ{k:Int}:aI .isin (.int k) (.ref 42) (hp s c st a wh rc B F)=some false:=rfl
theorem zC{k:Int}{j m:Nat}(hj:j<16)(hm: ∀i,i<16→(wh.S i).length≤m)(h1:m≤1000): ∃q,aI .isin (.int k) (.ref (26+j)) (hp s c st a wh rc B F)=some q∧
  (q=true→ ∃l,l.length≤m∧dm b 2 (26+j) [.int k] (hp s c st a wh rc B F)=some (.none,hp s c st a {wh with S:=pF wh.S j l} rc B F)):=by
 obtain⟨q,e1,e2⟩:=pE k (wh.S j)
 refine⟨q,?_,fun hq=> ?_⟩
 ·show(match(hp s c st a wh rc B F)[26+j]? with|some c=>_|none=>none)=_
  rw[iQ j hj]
  exact e1
 ·obtain⟨r,e3,e4⟩:=e2 hq
  refine⟨r,Nat.le_trans e4 (hm j hj),?_⟩
  show(match(hp s c st a wh rc B F)[26+j]? with|some c=>_|none=>none)=_
  rw[iQ j hj]
  show(if ju ((wh.S j).map .int)&&Nat.blt ((wh.S j).map MV.int).length 1000000 then match gK k ((wh.S j).map .int)with|some r=>some (_,_)|none=>none else none)=_
  have hl:Nat.blt ((wh.S j).map MV.int).length 1000000=true:=by
   rw[List.length_map]
   exact Nat.ble_eq_true_of_le (Nat.lt_of_le_of_lt (Nat.le_trans (hm j hj) h1) (by decide))
  rw[pD,hl,e3]
  show some (MV.none,(hp s c st a wh rc B F).set (26+j) (.list (r.map .int)))=_
  rw[slot_set j hj]
theorem r0 {S:Nat→List Int}{j m:Nat}{l:List Int}(h: ∀i,i<16→(S i).length≤m)(hl:l.length≤m): ∀i,i<16→(pF S j l i).length≤m:=fun i hi=>by
 unfold pF
 cases Nat.beq j i with
 |true=>exact hl
 |false=>exact h i hi
theorem Ax{k:Int}{v:Int×Int}(h:dB (ents wh.D wh.W wh.o) k=some (tg v)){D W:Option (Int×Int)}{o:Bool}(g:idel (ents wh.D wh.W wh.o) k=ents D W o){m:Nat}(hm: ∀i,i<16→(wh.S i).length≤m)(h1:m≤1000):
  ∃S,(∀i,i<16→(S i).length≤m)∧ao fns (n+1) b 789 [.ref 24,.int k] (hp s c st a wh rc B F)=some (.none,hp s c st a {wh with D:=D,W:=W,o:=o,S:=S} rc B F):=by
 obtain⟨q,e1,e2⟩:=zC (b:=b) (s:=s) (c:=c) (st:=st) (a:=a) (wh:={wh with D:=D,W:=W,o:=o}) (rc:=rc) (B:=B) (F:=F) (k:=k) (fM v.1) hm h1
 cases q with
 |false=>
  refine⟨wh.S,hm,?_⟩
  apply aN (F:=qc) (loc:=[.ref 24,.int k,.unb,.unb,.unb]) rfl rfl rfl rfl;unfold qc;dsimp only
  apply ae
  apply aK
  apply au;exact ab rfl;apply ah;exact ab rfl;exact fH;exact qV h;apply ae;apply cN;apply bP (m:=1);apply ah;exact ab rfl;exact fH;exact⟨_,rfl,rfl⟩;apply aa;exact ab rfl;exact af;exact wZ h g;apply aS;exact nD;apply aS;exact ph;exact bX;apply ae;apply eE;apply bH;apply aa;apply ah;exact ab rfl;exact wJ;apply aa;apply az;apply ah;exact ab rfl;exact qQ;apply aF;exact ab rfl;apply ah;exact ab rfl;exact qP;exact dO (by decide);exact lu _;exact af;exact rfl;apply bR;exact rfl;exact rfl;apply ae;apply aC;apply au;exact ab rfl;exact ab rfl;exact rZ;exact ar;exact ar;apply bR;exact rfl;exact rfl;apply ae;apply aC;apply au;exact ab rfl;exact ab rfl;exact e1;exact ar;exact ar;exact cg rfl;exact ar;exact ar
 |true=>
  obtain⟨l,hl,e3⟩:=e2 rfl
  refine⟨pF wh.S (fL v.1) l,r0 hm hl,?_⟩
  have bm:tK (hp s c st a {wh with D:=D,W:=W,o:=o} rc B F) (26+fL v.1) 2 2:=⟨_,iQ _ (fM _),rfl⟩
  apply aN (F:=qc) (loc:=[.ref 24,.int k,.unb,.unb,.unb]) rfl rfl rfl rfl;unfold qc;dsimp only
  apply ae
  apply aK
  apply au;exact ab rfl;apply ah;exact ab rfl;exact fH;exact qV h;apply ae;apply cN;apply bP (m:=1);apply ah;exact ab rfl;exact fH;exact⟨_,rfl,rfl⟩;apply aa;exact ab rfl;exact af;exact wZ h g;apply aS;exact nD;apply aS;exact ph;exact bX;apply ae;apply eE;apply bH;apply aa;apply ah;exact ab rfl;exact wJ;apply aa;apply az;apply ah;exact ab rfl;exact qQ;apply aF;exact ab rfl;apply ah;exact ab rfl;exact qP;exact dO (by decide);exact lu _;exact af;exact rfl;apply bR;exact rfl;exact rfl;apply ae
  apply aC
  apply au;exact ab rfl;exact ab rfl;exact rZ;exact ar;exact ar;apply bR;exact rfl;exact rfl;apply ae
  apply aK
  apply au;exact ab rfl;exact ab rfl;exact e1;apply ae;apply bu;apply bP (m:=2);exact ab rfl;exact bm;apply aa;exact ab rfl;exact af;exact e3;exact ar;exact ar;exact cg rfl;exact ar;exact ar
theorem mI{m:Nat}(hm:SB wh.S m)(h1:m≤1000): ∃S,SB S m∧ao fns (n+1) b 789 [.ref 24,.int 3] (hp s c st a wh rc B F)=some (.none,hp s c st a {wh with D:=none,S:=S} rc B F):=by
 have h:dB (ents wh.D wh.W wh.o) 3=wh.D.map tg:=E2
 cases e:wh.D with
 |none=>
  refine⟨wh.S,hm,(rY (h.trans (congrArg (Option.map tg) e))).trans ?_⟩
  rw[←e]
 |some t=>exact Ax (h.trans (congrArg (Option.map tg) e)) Hq hm h1
theorem tP{m:Nat}(hm:SB wh.S m)(h1:m≤1000): ∃S,SB S m∧ao fns (n+1) b 789 [.ref 24,.int 4] (hp s c st a wh rc B F)=some (.none,hp s c st a {wh with W:=none,S:=S} rc B F):=by
 have h:dB (ents wh.D wh.W wh.o) 4=wh.W.map tg:=E3
 cases e:wh.W with
 |none=>
  refine⟨wh.S,hm,(rY (h.trans (congrArg (Option.map tg) e))).trans ?_⟩
  rw[←e]
 |some t=>exact Ax (h.trans (congrArg (Option.map tg) e)) Hr hm h1
theorem w1 {j m:Nat}{k:Int}(hj:j<16)(hm:SB wh.S m)(h1:m≤1000):dm b 0 (26+j) [.int k] (hp s c st a wh rc B F)=some (.none,hp s c st a {wh with S:=pF wh.S j (wh.S j++[k])} rc B F):=by
 show(match(hp s c st a wh rc B F)[26+j]? with|some c=>_|none=>none)=_
 rw[iQ j hj]
 show(if Nat.blt ((wh.S j).map MV.int).length 1000000 then some (MV.none,(hp s c st a wh rc B F).set (26+j) (.list ((wh.S j).map .int++[.int k])))else none)=_
 have hl:Nat.blt ((wh.S j).map MV.int).length 1000000=true:=by
  rw[List.length_map]
  exact Nat.ble_eq_true_of_le (Nat.lt_of_le_of_lt (Nat.le_trans (hm j hj) h1) (by decide))
 rw[hl,if_pos rfl,show(wh.S j).map MV.int++[.int k]=(wh.S j++[k]).map MV.int by rw[List.map_append];rfl,slot_set j hj]
theorem CG{k:Int}{v:Int×Int}{D W:Option (Int×Int)}{o:Bool}(g:iput (ents wh.D wh.W wh.o) k (tg v)=ents D W o):cT (.ref 43) (.int k) (tg v) (hp s c st a wh rc B F)=some (hp s c st a {wh with D:=D,W:=W,o:=o} rc B F):=by
 show(if Nat.ble (ents wh.D wh.W wh.o).length 1000 then some ((hp s c st a wh rc B F).set 43 (.dictI (iput (ents wh.D wh.W wh.o) k (tg v))))else none)=_
 rw[if_pos Au,g]
 rfl
theorem SB.put {S:Nat→List Int}{m j:Nat}{k:Int}(h:SB S m)(hj:j<16):SB (pF S j (S j++[k])) (m+1):=
 r0 (fun i hi=>Nat.le_succ_of_le (h i hi)) (by rw[List.length_append];exact Nat.succ_le_succ (h j hj))
theorem Ay{k t:Int}{m:Nat}{D W D' W':Option (Int×Int)}{o o':Bool}{S:Nat→List Int}(hS:SB S m)(h1:m≤1000)
  (e:ao fns (n+1) b 789 [.ref 24,.int k] (hp s c st a wh rc B F)=some (.none,hp s c st a ⟨D,W,o,S,wh.g⟩ rc B F))(g:iput (ents D W o) k (tg (t,wh.g+1))=ents D' W' o'):
  ao fns (n+2) b 775 [.ref 24,.int k,.int t] (hp s c st a wh rc B F)=some (.none,hp s c st a ⟨D',W',o',pF S (fL t) (S (fL t)++[k]),wh.g+1⟩ rc B F):=by
 have p:=CG (s:=s) (c:=c) (st:=st) (a:=a) (wh:=⟨D,W,o,S,wh.g+1⟩) (rc:=rc) (B:=B) (F:=F) g
 have q:=w1 (b:=b) (s:=s) (c:=c) (st:=st) (a:=a) (wh:=⟨D',W',o',S,wh.g+1⟩) (rc:=rc) (B:=B) (F:=F) (k:=k) (fM t) hS h1
 have bm:tK (hp s c st a ⟨D',W',o',S,wh.g+1⟩ rc B F) (26+fL t) 0 0:=⟨_,iQ _ (fM _),rfl⟩
 apply aN (F:=Bf) (loc:=[.ref 24,.int k,.int t]) rfl rfl rfl rfl;unfold Bf;dsimp only
 apply ae;apply bu;apply ax;exact ab rfl;exact gC;apply aa;exact ab rfl;exact af;exact e;apply ae;apply aA;apply aF;apply ah;exact ab rfl;exact wK;exact aq;exact rfl;apply bw;exact ab rfl;exact Ct;apply ae;apply aA;apply bH;apply aa;exact ab rfl;apply aa;apply ah;exact ab rfl;exact wK;exact af;exact rfl;apply bp;apply ah;exact ab rfl;exact fH;exact ab rfl;exact p;apply ae;apply bu;apply bP (m:=0);apply ax;exact ab rfl;exact zm;apply aa;exact ab rfl;exact af;exact Hu;exact bm;apply aa;exact ab rfl;exact af;exact q;exact ar
theorem CH{t:Int}{m:Nat}(hm:SB wh.S m)(h1:m≤1000): ∃S,SB S (m+1)∧ao fns (n+2) b 775 [.ref 24,.int 3,.int t] (hp s c st a wh rc B F)=some (.none,hp s c st a ⟨some (t,wh.g+1),wh.W,false,S,wh.g+1⟩ rc B F):=by
 obtain⟨S,hS,e⟩:=mI (n:=n) (b:=b) (s:=s) (c:=c) (st:=st) (a:=a) (rc:=rc) (B:=B) (F:=F) hm h1
 exact⟨_,hS.put (fM t),Ay hS h1 e Hs⟩
theorem CI{t:Int}{m:Nat}(hm:SB wh.S m)(h1:m≤1000): ∃S,SB S (m+1)∧ao fns (n+2) b 775 [.ref 24,.int 4,.int t] (hp s c st a wh rc B F)=some (.none,hp s c st a ⟨wh.D,some (t,wh.g+1),true,S,wh.g+1⟩ rc B F):=by
 obtain⟨S,hS,e⟩:=tP (n:=n) (b:=b) (s:=s) (c:=c) (st:=st) (a:=a) (rc:=rc) (B:=B) (F:=F) hm h1
 exact⟨_,hS.put (fM t),Ay hS h1 e Ht⟩
end
section
variable{n:Nat}{b:Bool}{s:MO}{c:fw}{st:Nat}{a:aU}{wh:eg}{rc:eA}{B:ee}{F:bD}{r:Nat}{dl:Int}
theorem E4:ao fns (n+1) b 928 [.ref 8] (hp s c st a wh rc B F)=some (.none,hp s c st a wh rc B F):=by kernel_rfl
theorem Hv:ao fns (n+2) b 515 [.ref 10] (hp s ⟨.ofNat (r+1),dl⟩ st a wh rc B F)=some (.int 0,hp s ⟨.ofNat (r+1),dl⟩ st a wh rc B F):=by kernel_rfl
theorem Hw:ao fns (n+6) b 635 [.ref 10] (hp s ⟨.ofNat (r+1),dl⟩ st a wh rc B F)=some (.bool false,hp s ⟨.ofNat (r+1),dl⟩ st a wh rc B F):=by kernel_rfl
theorem Hx{x y:MV}:ao fns (n+5) b 586 [.ref 10,x,y] (hp s ⟨.ofNat (r+1),dl⟩ st a wh rc B F)=some (.ref F.next,hp s ⟨.ofNat (r+1),dl⟩ st a wh rc B (F.app [.list []])):=by kernel_rfl
theorem Hy:ao fns (n+1) b 134 [.ref 20] (hp s c st a wh rc B F)=some (.int 8,hp s c st a wh rc B F):=by kernel_rfl
theorem item_at{i j:Nat}{l:List MV}(h:F.at i=some (.list l)):itemAt (hp s c st a wh rc B F) (.ref i) j=some l[j]? :=by
 unfold itemAt
 dsimp only
 rw[dg h]
theorem gw{i:Nat}(h:F.at i=some (.list [])):itemAt (hp s c st a wh rc B F) (.ref i) 0=some none:=item_at h
theorem Hz{now:Int}:ao fns (n+6) b 935 [.ref 8,.int now] (hp s ⟨.ofNat (r+1),dl⟩ st a wh rc B F)=some (.ref F.next,hp s ⟨.ofNat (r+1),dl⟩ st a wh rc B ((F.app [.list []]).app [.list []])):=by
 apply aw (F:=Bl) (loc:=[.ref 8,.int now,.unb,.unb,.unb,.unb,.unb,.unb,.unb,.unb]) rfl rfl rfl rfl;unfold Bl;dsimp only
 apply ae;apply aA;apply bl;exact af;exact rfl;exact nD;apply ae;apply aA;apply ah;apply ah;exact ab rfl;exact wH;exact EP;exact ph;apply ae;apply aA;apply ah;apply ah;exact ab rfl;exact pA;exact EW;exact ik;apply ae;apply eE;apply ax;apply ah;exact ab rfl;exact pA;exact Cj;apply aa;apply ax;apply ah;exact ab rfl;exact EU;exact Ci;exact af;exact Hy;apply aa;apply ah;exact ab rfl;exact EV;exact af;exact Hx;exact cg (gw aH);apply aM;exact ab rfl
theorem HA:ao fns (n+1) b 755 [.str st] (hp s c st a wh rc B F)=some (.bool (Nat.beq 183 st||(Nat.beq 184 st||(Nat.beq 186 st||(Nat.beq 187 st||(Nat.beq 188 st||false))))),hp s c st a wh rc B F):=by kernel_rfl
theorem E5 {now:Int}:ao fns (n+7) b 949 [.ref 8,.int now] (hp s c 189 a wh rc B F)=some (.none,hp s c 189 a wh rc B F):=by kernel_rfl
theorem E6 {now:Int}(h1:aI .isin (.str st) (.tup [.str 179,.str 180,.str 189]) (hp s ⟨.ofNat (r+1),dl⟩ st a wh rc B F)=some false):
  ao fns (n+7) b 949 [.ref 8,.int now] (hp s ⟨.ofNat (r+1),dl⟩ st a wh rc B F)=some (.none,hp s ⟨.ofNat (r+1),dl⟩ st a wh rc B F):=by
 have z:bo (ao fns (n+6)) b (.or (.not (.call 755 (.cons (.attr (.l 0) 5) .nil))) (.not (.meth (.attr (.l 0) 69) 125 .nil))) [.ref 8,.int now] (hp s ⟨.ofNat (r+1),dl⟩ st a wh rc B F)=some (.bool true,hp s ⟨.ofNat (r+1),dl⟩ st a wh rc B F):=
  wA (eD (aB (aa (ah (ab rfl) fX) af) HA)) (bI (ax (ah (ab rfl) pA) zl af Hw))
 apply aN (F:=Bm) (loc:=[.ref 8,.int now]) rfl rfl rfl rfl;unfold Bm;dsimp only
 apply ae
 apply aC
 apply au;apply ah;exact ab rfl;exact fX;apply bH;apply aa;exact aq;apply aa;exact aq;apply aa;exact aq;exact af;exact rfl;exact h1;exact ar;apply ae;apply aK;apply au;apply ax;apply ah;exact ab rfl;exact pA;exact Ck;exact af;exact Hv;exact aq;exact rfl;apply ae;apply bu;apply ax;apply ah;exact ab rfl;exact iP;exact gC;apply aa;exact aq;exact af;exact wX;exact ar;apply ae;apply aK;exact z;apply ae;apply bu;apply ax;apply ah;exact ab rfl;exact iP;exact gC;apply aa;exact aq;exact af;exact wY;apply ae;apply aA;exact aq;apply bw;exact ab rfl;exact EY;exact ar;exact ar
noncomputable def qW(st:Nat):Prop:=st=183∨st=184∨st=185∨st=186∨st=187∨st=189
theorem r4 {now:Int}(h1:aI .isin (.str st) (.tup [.str 179,.str 180,.str 189]) (hp s ⟨.ofNat (r+1),dl⟩ st a wh rc B F)=some false)
  (h2:aI .isin (.str st) (.tup [.str 181,.str 182]) (hp s ⟨.ofNat (r+1),dl⟩ st a wh rc B (F.app [.list []]))=some false)
  (h3:ao fns (n+7) b 755 [.str st] (hp s ⟨.ofNat (r+1),dl⟩ st a wh rc B (F.app [.list []]))=some (.bool true,hp s ⟨.ofNat (r+1),dl⟩ st a wh rc B (F.app [.list []]))):
  ao fns (n+8) b 942 [.ref 8,.int now] (hp s ⟨.ofNat (r+1),dl⟩ st a wh rc B F)=some (.ref (F.app [.list []]).next,hp s ⟨.ofNat (r+1),dl⟩ st a wh rc B (((F.app [.list []]).app [.list []]).app [.list []])):=by
 apply aw (F:=uu) (loc:=[.ref 8,.int now,.unb]) rfl rfl rfl rfl;unfold uu;dsimp only
 apply ae;apply bu;apply aB;apply aa;exact ab rfl;exact af;exact E4;apply ae;apply aA;apply bl;exact af;exact rfl;exact nD;apply ae
 apply aC
 apply au;apply ah;exact ab rfl;exact fX;apply bH;apply aa;exact aq;apply aa;exact aq;exact af;exact rfl;exact h2;apply ae;apply aK;apply aB;apply aa;apply ah;exact ab rfl;exact fX;exact af;exact h3;apply ae;apply aA;apply aB;apply aa;exact ab rfl;apply aa;exact ab rfl;exact af;exact Hz;exact nD;exact ar;exact ar;apply ae;apply bu;apply aB;apply aa;exact ab rfl;apply aa;exact ab rfl;exact af;exact E6 h1;apply aM;exact ab rfl
theorem Az{now:Int}(h0:ao fns (n+7) b 949 [.ref 8,.int now] (hp s c st a wh rc B (F.app [.list []]))=some (.none,hp s c st a wh rc B (F.app [.list []])))
  (h2:aI .isin (.str st) (.tup [.str 181,.str 182]) (hp s c st a wh rc B (F.app [.list []]))=some false)
  (h3:ao fns (n+7) b 755 [.str st] (hp s c st a wh rc B (F.app [.list []]))=some (.bool false,hp s c st a wh rc B (F.app [.list []]))):
  ao fns (n+8) b 942 [.ref 8,.int now] (hp s c st a wh rc B F)=some (.ref F.next,hp s c st a wh rc B (F.app [.list []])):=by
 apply aw (F:=uu) (loc:=[.ref 8,.int now,.unb]) rfl rfl rfl rfl;unfold uu;dsimp only
 apply ae;apply bu;apply aB;apply aa;exact ab rfl;exact af;exact E4;apply ae;apply aA;apply bl;exact af;exact rfl;exact nD;apply ae;apply aC;apply au;apply ah;exact ab rfl;exact fX;apply bH;apply aa;exact aq;apply aa;exact aq;exact af;exact rfl;exact h2;apply ae;apply aC;apply aB;apply aa;apply ah;exact ab rfl;exact fX;exact af;exact h3;exact ar;exact ar;apply ae;apply bu;apply aB;apply aa;exact ab rfl;apply aa;exact ab rfl;exact af;exact h0;apply aM;exact ab rfl
theorem E7 {now:Int}(h:qW st):dk fun F' x=>cC (F.Le F') (F.at x=none) (F'.at x=some (.list [])) (ao fns (n+8) b 942 [.ref 8,.int now] (hp s ⟨.ofNat (r+1),dl⟩ st a wh rc B F)=some (.ref x,hp s ⟨.ofNat (r+1),dl⟩ st a wh rc B F')):=by
 have x1:F.Le (((F.app [.list []]).app [.list []]).app [.list []]):=(le_app.trans le_app).trans le_app
 have x2:(((F.app [.list []]).app [.list []]).app [.list []]).at (F.app [.list []]).next=some (.list []):=aJ aH
 have x3:F.at (F.app [.list []]).next=none:=dP (by unfold bD.next bD.app;dsimp only;rw[List.length_append];exact Nat.add_le_add_right (Nat.le_add_right (List.length F.G) [MO.list []].length) 53)
 have x4:F.at F.next=none:=dP (Nat.le_refl _)
 rcases h with rfl|rfl|rfl|rfl|rfl|rfl
 ·exact⟨_,_,x1,x3,x2,r4 rfl rfl rfl⟩
 ·exact⟨_,_,x1,x3,x2,r4 rfl rfl rfl⟩
 ·exact⟨_,_,le_app,x4,aH,Az (E6 rfl) rfl rfl⟩
 ·exact⟨_,_,x1,x3,x2,r4 rfl rfl rfl⟩
 ·exact⟨_,_,x1,x3,x2,r4 rfl rfl rfl⟩
 ·exact⟨_,_,le_app,x4,aH,Az E5 rfl rfl⟩
end
section
variable{n:Nat}{b fl:Bool}{s:MO}{c:fw}{st:Nat}{a:aU}{wh:eg}{rc:eA}{B:ee}{F:bD}{H:HH}
theorem iR{i:Nat}{bs:List UInt8}(h:F.at i=some (.barr bs))(hl:Nat.ble bs.length 1000000=true):cu fl .len [.ref i] (hp s c st a wh rc B F)=some (.int bs.length,hp s c st a wh rc B F):=by
 have e:iZ (.ref i) (hp s c st a wh rc B F)=some bs.length:=by
  unfold iZ
  dsimp only
  rw[dg h]
 show(match iZ (.ref i) (hp s c st a wh rc B F)with|some n=>_|none=>none)=_
 rw[e]
 exact if_pos hl
theorem bc{bs:List UInt8}(hl:Nat.ble bs.length 1000000=true):cu fl .len [.bytes bs] H=some (.int bs.length,H):=if_pos hl
theorem mJ{R x y:Int}(hR:256≤R)(h:x<y)(h':y - x<128):ao fns (n+2) b 42 [.int (num R x),.int (num R y),.int R] H=some (.bool true,H):=
 (mH hR (uY (Int.le_of_lt h)) h').trans (by rw[decide_eq_true h])
theorem jK{R x y:Int}(hR:256≤R)(h:y≤x)(h':x - y<128):ao fns (n+2) b 42 [.int (num R x),.int (num R y),.int R] H=some (.bool false,H):=
 (mH hR h' (uY h)).trans (by rw[decide_eq_false (Int.not_lt.mpr h)])
noncomputable def dZ(rc:eA)(l:Nat):Int:=rc.nx+(16 - l)
theorem E8 {bs:List UInt8}(h:F.at rc.ry=some (.barr bs))(hl:Nat.ble bs.length 1000000=true):ao fns (n+1) b 1165 [.ref 45] (hp s c st a wh rc B F)=some (.int bs.length,hp s c st a wh rc B F):=by
 apply aw (F:=uy) (loc:=[.ref 45]) rfl rfl rfl rfl;unfold uy;dsimp only
 apply aM;apply aP;apply aa;apply ah;exact ab rfl;exact gr;exact af;exact iR h hl
theorem r5 {bs:List UInt8}(hR:256≤c.R)(h:F.at rc.ry=some (.barr bs))(hl:Nat.ble bs.length 1000000=true):ao fns (n+2) b 1095 [.ref 45] (hp s c st a wh rc B F)=some (.int (num c.R (dZ rc bs.length)),hp s c st a wh rc B F):=by
 apply aw (F:=uw) (loc:=[.ref 45]) rfl rfl rfl rfl;unfold uw;dsimp only
 apply aM;apply aB;apply aa;apply ah;exact ab rfl;exact cB;apply aa;apply aF;apply ah;exact ab rfl;exact wL;apply aP;apply aa;apply ah;exact ab rfl;exact gr;exact af;exact iR h hl;exact rfl;apply aa;apply ah;exact ab rfl;exact bL;exact af;exact pq hR
noncomputable def lx(rc:eA)(l:Nat):Bool:= !rc.hf&&decide (4≤dZ rc l - rc.te)
theorem E9 {bs:List UInt8}(hR:256≤c.R)(h:F.at rc.ry=some (.barr bs))(hl:Nat.ble bs.length 1000000=true)(h1:rc.te≤dZ rc bs.length)(h2:dZ rc bs.length - rc.te<128):
  ao fns (n+3) b 1102 [.ref 45,.int 4] (hp s c st a wh rc B F)=some (.bool (lx rc bs.length),hp s c st a wh rc B F):=by
 unfold lx
 obtain⟨nx,te,fa,hf,ua,ry,pr⟩:=rc
 cases hf with
 |true=>
  apply aw (F:=j9) (loc:=[.ref 45,.int 4]) rfl rfl rfl rfl;unfold j9;dsimp only
  apply bE;apply fc;apply ah;exact ab rfl;exact dQ;apply aM;exact aq
 |false=>
  have h1:te≤dZ ⟨nx,te,fa,false,ua,ry,pr⟩ bs.length:=h1
  by_cases z:te<dZ ⟨nx,te,fa,false,ua,ry,pr⟩ bs.length
  ·apply aw (F:=j9) (loc:=[.ref 45,.int 4]) rfl rfl rfl rfl;unfold j9;dsimp only
   apply ae;apply aC;apply cf;apply ah;exact ab rfl;exact dQ;apply df;apply aB;apply aa;apply ah;exact ab rfl;exact fg;apply aa;apply ax;exact ab rfl;exact jX;exact af;exact r5 hR h hl;apply aa;apply ah;exact ab rfl;exact bL;exact af;exact(mJ hR z h2);exact ar;apply aM;apply au;apply aB;apply aa;apply ah;exact ab rfl;exact fg;apply aa;apply ax;exact ab rfl;exact jX;exact af;exact r5 hR h hl;apply aa;apply ah;exact ab rfl;exact bL;exact af;exact(g9 hR h1 h2);apply aP;apply aa;exact aq;apply aa;apply aP;apply aa;exact ab rfl;apply aa;apply aF;apply ah;exact ab rfl;exact wL;exact aq;exact rfl;exact af;exact rfl;exact af;exact rfl;exact rfl
  ·rw[show decide (4≤dZ ⟨nx,te,fa,false,ua,ry,pr⟩ bs.length - te)=false from decide_eq_false (by omega)]
   apply aw (F:=j9) (loc:=[.ref 45,.int 4]) rfl rfl rfl rfl;unfold j9;dsimp only
   apply bE;apply cf;apply ah;exact ab rfl;exact dQ;apply bI;apply aB;apply aa;apply ah;exact ab rfl;exact fg;apply aa;apply ax;exact ab rfl;exact jX;exact af;exact r5 hR h hl;apply aa;apply ah;exact ab rfl;exact bL;exact af;exact(jK hR (Int.not_lt.mp z) (uY h1));apply aM;exact aq
noncomputable def cH(rc:eA)(l:Nat):Int:=match lx rc l with
 |true=>dZ rc l
 |false=>rc.te
theorem AA(hR:256≤c.R)(h1:rc.te - rc.nx<128)(h2:rc.nx - rc.te<128):ao fns (n+3) b 1109 [.ref 45] (hp s c st a wh rc B F)=some (.int (max 0 (rc.te - rc.nx)),hp s c st a wh rc B F):=by
 by_cases z:rc.te<rc.nx
 ·rw[Int.max_eq_left (Int.sub_nonpos_of_le (Int.le_of_lt z))]
  apply aw (F:=n7) (loc:=[.ref 45]) rfl rfl rfl rfl;unfold n7;dsimp only
  apply bE;apply aB;apply aa;apply ah;exact ab rfl;exact fg;apply aa;apply ah;exact ab rfl;exact cB;apply aa;apply ah;exact ab rfl;exact bL;exact af;exact(mJ hR z h2);apply aM;exact aq
 ·have z:=Int.not_lt.mp z
  rw[Int.max_eq_right (Int.sub_nonneg_of_le z)]
  apply aw (F:=n7) (loc:=[.ref 45]) rfl rfl rfl rfl;unfold n7;dsimp only
  apply ae;apply aC;apply aB;apply aa;apply ah;exact ab rfl;exact fg;apply aa;apply ah;exact ab rfl;exact cB;apply aa;apply ah;exact ab rfl;exact bL;exact af;exact(jK hR z h1);exact ar;apply aM;apply aB;apply aa;apply ah;exact ab rfl;exact cB;apply aa;apply ah;exact ab rfl;exact fg;apply aa;apply ah;exact ab rfl;exact bL;exact af;exact(g9 hR z h1)
theorem Fb{bs:List UInt8}(hR:256≤c.R)(h:F.at rc.ry=some (.barr bs))(hl:Nat.ble bs.length 1000000=true)(h1:rc.te≤dZ rc bs.length)(h2:dZ rc bs.length - rc.te<128)
  (h3:dZ rc bs.length - rc.nx<128)(h4:rc.nx - rc.te<128):
  ao fns (n+4) b 1116 [.ref 45] (hp s c st a wh rc B F)=some (.int (max 0 (cH rc bs.length - rc.nx)),hp s c st a wh {rc with te:=cH rc bs.length} B F):=by
 have e:=E9 (n:=n) (b:=b) (s:=s) (st:=st) (a:=a) (wh:=wh) (B:=B) hR h hl h1 h2
 unfold cH
 cases z:lx rc bs.length with
 |true=>
  rw[z]at e
  have w:=AA (n:=n) (b:=b) (s:=s) (st:=st) (a:=a) (wh:=wh) (B:=B) (F:=F) (rc:={rc with te:=dZ rc bs.length}) hR h3 (by show rc.nx - dZ rc bs.length<128;omega)
  apply aw (F:=n8) (loc:=[.ref 45]) rfl rfl rfl rfl;unfold n8;dsimp only
  apply ae;apply aK;apply ax;exact ab rfl;exact rW;apply aa;apply ah;exact ab rfl;exact wM;exact af;exact e;apply ae;apply aA;apply ax;exact ab rfl;exact jX;exact af;exact r5 hR h hl;apply bw;exact ab rfl;exact Cv;exact ar;apply aM;apply ax;exact ab rfl;exact rX;exact af;exact w
 |false=>
  rw[z]at e
  have w:=AA (n:=n) (b:=b) (s:=s) (st:=st) (a:=a) (wh:=wh) (B:=B) (F:=F) (rc:=rc) hR (by omega) h4
  apply aw (F:=n8) (loc:=[.ref 45]) rfl rfl rfl rfl;unfold n8;dsimp only
  apply ae;apply aC;apply ax;exact ab rfl;exact rW;apply aa;apply ah;exact ab rfl;exact wM;exact af;exact e;exact ar;apply aM;apply ax;exact ab rfl;exact rX;exact af;exact w
noncomputable def d6 (sp tp sq ak fl wn ur:Int)(op pl:List UInt8):MO:= .attrs [(45,.int sp),(46,.int tp),(47,.int sq),(48,.int ak),(49,.int fl),(50,.int wn),(51,.int ur),(52,.bytes op),(53,.bytes pl)]
theorem nK{o o':MO}:(F.app [o,o']).at (F.next+1)=some o':=by
 have e:F.app [o,o']=(F.app [o]).app [o']:=by unfold bD.app;dsimp only;rw[List.append_assoc];rfl
 have:=aH (F:=F.app [o]) (o:=o') (L:=[])
 rw[e]
 rwa[show(F.app [o]).next=F.next+1 by unfold bD.next bD.app;dsimp only;rw[List.length_append];rfl]at this
theorem eM{k:Nat}{v:MV}{fs fs':List (Nat×MV)}(hc:ck 702 k= .plain)(hb:(Nat.blt k 223&&Nat.blt fs.length 100)=true)(hf:aput fs k v=fs'):
  setAt (.ref (F.next+1)) k v (hp s c st a wh rc B (F.app [.attrs fs,.inst 702 F.next]))=some (hp s c st a wh rc B (F.app [.attrs fs',.inst 702 F.next])):=by
 rw[wy (dg nK) hc (dg aH) hb hf,lj aH]
 have e:(F.app [.attrs fs,.inst 702 F.next]).set F.next (.attrs fs')=F.app [.attrs fs',.inst 702 F.next]:=by
  have h1:Nat.beq F.next 46=false:=by
   cases e:Nat.beq F.next 46 with
   |false=>rfl
   |true=>have:=Nat.eq_of_beq_eq_true e;unfold bD.next at this;omega
  have h2:Nat.beq F.next 49=false:=by
   cases e:Nat.beq F.next 49 with
   |false=>rfl
   |true=>have:=Nat.eq_of_beq_eq_true e;unfold bD.next at this;omega
  unfold bD.set
  rw[h1]
  dsimp only
  rw[h2]
  show bD.mk F.x F.y ((F.G++[MO.attrs fs,.inst 702 F.next]).set (F.G.length+53 - 53) (.attrs fs'))=_
  rw[Nat.add_sub_cancel,List.set_append_right _ _ (Nat.le_refl _),Nat.sub_self]
  rfl
 rw[e]
theorem Fc{sp tp sq ak fl wn ur:Int}{op pl:List UInt8}:ao fns (n+1) b 678 [.ref (F.next+1),.int sp,.int tp,.int sq,.int ak,.int fl,.int wn,.int ur,.bytes op,.bytes pl] (hp s c st a wh rc B (F.app [.attrs [],.inst 702 F.next]))=
  some (.none,hp s c st a wh rc B (F.app [d6 sp tp sq ak fl wn ur op pl,.inst 702 F.next])):=by
 apply aN (F:=Bc) (loc:=[.ref (F.next+1),.int sp,.int tp,.int sq,.int ak,.int fl,.int wn,.int ur,.bytes op,.bytes pl]) rfl rfl rfl rfl;unfold Bc;dsimp only
 apply ae;apply aA;exact ab rfl;apply bw;exact ab rfl;exact eM rfl rfl rfl;apply ae;apply aA;exact ab rfl;apply bw;exact ab rfl;exact eM rfl rfl rfl;apply ae;apply aA;exact ab rfl;apply bw;exact ab rfl;exact eM rfl rfl rfl;apply ae;apply aA;exact ab rfl;apply bw;exact ab rfl;exact eM rfl rfl rfl;apply ae;apply aA;exact ab rfl;apply bw;exact ab rfl;exact eM rfl rfl rfl;apply ae;apply aA;exact ab rfl;apply bw;exact ab rfl;exact eM rfl rfl rfl;apply ae;apply aA;exact ab rfl;apply bw;exact ab rfl;exact eM rfl rfl rfl;apply ae;apply aA;exact ab rfl;apply bw;exact ab rfl;exact eM rfl rfl rfl;apply ae;apply aA;exact ab rfl;apply bw;exact ab rfl;exact eM rfl rfl rfl;exact ar
theorem seg_at{g d k:Nat}{fs:List (Nat×MV)}{v:MV}(h1:F.at g=some (.inst 702 d))(h2:F.at d=some (.attrs fs))(hc:ck 702 k= .plain)(hg:dS fs k=some v):aQ (hp s c st a wh rc B F) g k v:=⟨702,d,fs,dg h1,hc,dg h2,hg⟩
theorem w2 {g d m f:Nat}{fs:List (Nat×MV)}(h1:F.at g=some (.inst 702 d))(h2:F.at d=some (.attrs fs))(hc:ck 702 m= .meth f)(hg:dS fs m=none):aX (hp s c st a wh rc B F) g m f:=⟨702,d,fs,dg h1,hc,dg h2,hg⟩
theorem HB{g d:Nat}{sp tp sq ak fl wn ur:Int}{op pl:List UInt8}(h1:F.at g=some (.inst 702 d))(h2:F.at d=some (d6 sp tp sq ak fl wn ur op pl)):
  ao fns (n+1) b 699 [.ref g] (hp s c st a wh rc B F)=some (.tup [.int sp,.int tp,.int sq,.int ak,.int fl,.int wn,.int ur,.bytes op,.bytes pl],hp s c st a wh rc B F):=by
 unfold d6 at h2
 apply aw (F:=Be) (loc:=[.ref g,.unb]) rfl rfl rfl rfl;unfold Be;dsimp only
 apply ae;apply aA;apply bH;apply aa;apply ah;exact ab rfl;exact(seg_at h1 h2 rfl rfl);apply aa;apply ah;exact ab rfl;exact(seg_at h1 h2 rfl rfl);apply aa;apply ah;exact ab rfl;exact(seg_at h1 h2 rfl rfl);apply aa;apply ah;exact ab rfl;exact(seg_at h1 h2 rfl rfl);apply aa;apply ah;exact ab rfl;exact(seg_at h1 h2 rfl rfl);apply aa;apply ah;exact ab rfl;exact(seg_at h1 h2 rfl rfl);apply aa;apply ah;exact ab rfl;exact(seg_at h1 h2 rfl rfl);exact af;exact rfl;exact tL;apply aM;apply aF;exact ab rfl;apply bH;apply aa;apply aP;apply aa;apply ah;exact ab rfl;exact(seg_at h1 h2 rfl rfl);exact af;exact rfl;apply aa;apply aP;apply aa;apply ah;exact ab rfl;exact(seg_at h1 h2 rfl rfl);exact af;exact rfl;exact af;exact rfl;exact rfl
structure r6 (R:Int)(rc:eA)(l:Nat):Prop where
 hl:Nat.ble l 1000000=true
 h1:rc.te≤dZ rc l
 h2:dZ rc l - rc.te<128
 h3:dZ rc l - rc.nx<128
 h4:rc.nx - rc.te<128
theorem HC{bs:List UInt8}(hR:256≤c.R)(h:F.at rc.ry=some (.barr bs))(w:r6 c.R rc bs.length):
  ao fns (n+5) b 871 [.ref 8] (hp s c st a wh rc B F)=some (.int (max 0 (cH rc bs.length - rc.nx)),hp s c st a wh {rc with te:=cH rc bs.length} B F):=by
 have e:=Fb (n:=n) (b:=b) (s:=s) (st:=st) (a:=a) (wh:=wh) (B:=B) hR h w.hl w.h1 w.h2 w.h3 w.h4
 have z:cu b .min [.int (max 0 (cH rc bs.length - rc.nx)),.int 65535] (hp s c st a wh {rc with te:=cH rc bs.length} B F)=some (.int (max 0 (cH rc bs.length - rc.nx)),hp s c st a wh {rc with te:=cH rc bs.length} B F):=by
  have h0:cH rc bs.length - rc.nx<128:=by
   unfold cH
   cases lx rc bs.length with
   |true=>exact w.h3
   |false=>have:=w.h1;have:=w.h3;show rc.te - rc.nx<128;omega
  show some (MV.int (if(65535:Int)<max 0 (cH rc bs.length - rc.nx)then 65535 else max 0 (cH rc bs.length - rc.nx)),_)=_
  rw[if_neg (by omega)]
 apply aw (F:=Bh) (loc:=[.ref 8]) rfl rfl rfl rfl;unfold Bh;dsimp only
 apply ae;apply aC;apply au;apply ah;exact ab rfl;exact lk;exact aq;exact rfl;exact ar;apply aM;apply aP;apply aa;apply ax;apply ah;exact ab rfl;exact lk;exact Co;exact af;exact e;apply aa;exact aq;exact af;exact z
theorem HD{bs:List UInt8}{S:Nat→List Int}(hR:256≤c.R)(h:F.at rc.ry=some (.barr bs))(w:r6 c.R rc bs.length)
  (hw:ao fns (n+5) b 789 [.ref 24,.int 3] (hp s c st ⟨0,none,a.gap⟩ wh rc B F)=some (.none,hp s c st ⟨0,none,a.gap⟩ {wh with D:=none,S:=S} rc B F)):
  ao fns (n+7) b 907 [.ref 8] (hp s c st a wh rc B F)=
   some (.ref (F.next+1),hp s c st ⟨0,none,a.gap⟩ {wh with D:=none,S:=S} {rc with te:=cH rc bs.length} B (F.app [d6 80 90 101 (num c.R rc.nx) 16 (max 0 (cH rc bs.length - rc.nx)) 0 [] [],.inst 702 F.next])):=by
 have e:ao fns (n+6) b 879 [.ref 8,.int 16,.int 101] (hp s c st a wh rc B F)=
   some (.ref (F.next+1),hp s c st ⟨0,none,a.gap⟩ {wh with D:=none,S:=S} {rc with te:=cH rc bs.length} B (F.app [d6 80 90 101 (num c.R rc.nx) 16 (max 0 (cH rc bs.length - rc.nx)) 0 [] [],.inst 702 F.next])):=by
  apply aw (F:=Bi) (loc:=[.ref 8,.int 16,.int 101,.bytes [],.unb,.unb,.unb]) rfl rfl rfl rfl;unfold Bi;dsimp only
  apply ae;apply aA;exact aq;exact ik;apply ae;apply aK;apply au;apply ah;exact ab rfl;exact lk;exact aq;exact rfl;apply ae;apply aA;apply aF;exact ab rfl;exact aq;exact rfl;exact tL;apply ae;apply aA;apply ah;apply ah;exact ab rfl;exact lk;exact cB;exact ik;apply ae;apply bu;apply ax;apply ah;exact ab rfl;exact fe;exact zk;exact af;exact Iz;apply ae;apply bu;apply ax;apply ah;exact ab rfl;exact iP;exact gC;apply aa;exact aq;exact af;exact hw;exact ar;apply ae;apply aA;apply dM;apply au;apply aF;exact ab rfl;exact aq;exact rfl;exact aq;exact rfl;exact aq;exact t6;apply ae;apply aA;apply ax;exact ab rfl;exact Cm;exact af;exact HC hR h w;exact xU;apply aM;apply rR;exact rfl;apply aa;apply az;apply ah;exact ab rfl;exact ES;exact aq;exact rfl;apply aa;apply az;apply ah;exact ab rfl;exact ET;exact aq;exact rfl;apply aa;exact ab rfl;apply aa;exact ab rfl;apply aa;exact ab rfl;apply aa;exact ab rfl;apply aa;exact aq;apply aa;exact ab rfl;apply aa;exact ab rfl;exact af;exact Fc
 apply aw (F:=Bk) (loc:=[.ref 8]) rfl rfl rfl rfl;unfold Bk;dsimp only
 apply aM;apply ax;exact ab rfl;exact EX;apply aa;exact aq;apply aa;apply ah;apply ah;exact ab rfl;exact pA;exact Cf;exact af;exact e
end
section
variable{n:Nat}{b fl:Bool}{s:MO}{c:fw}{st:Nat}{a:aU}{wh:eg}{rc:eA}{B:ee}{F:bD}{H:HH}{r:Nat}{dl:Int}
theorem eN{x:Nat}{xs:List MV}(h:F.at x=some (.list xs)){k:Nat}(hk:Nat.blt k 4=true):tK (hp s c st a wh rc B F) x k k:=⟨_,dg h,if_pos hk⟩
theorem dR{x:Nat}{xs:List MV}{v:MV}(h:F.at x=some (.list xs))(hl:Nat.blt xs.length 1000000=true):dm fl 0 x [v] (hp s c st a wh rc B F)=some (.none,hp s c st a wh rc B (F.set x (.list (xs++[v])))):=by
 show(match(hp s c st a wh rc B F)[x]? with|some c=>_|none=>none)=_
 rw[dg h]
 show(if Nat.blt xs.length 1000000 then some (MV.none,(hp s c st a wh rc B F).set x (.list (xs++[v])))else none)=_
 rw[if_pos hl,lj h]
theorem w3 {bs:List UInt8}{now:Int}{m:Nat}(hst:qW st)(hS:SB wh.S m)(hm:m≤1000)(hR:256≤(Int.ofNat (r+1)))(h:F.at rc.ry=some (.barr bs))(w:r6 (.ofNat (r+1)) rc bs.length)(hd:hK a now=true):
  zZ fun S F' x g d=>p8 (SB S m) (F.Le F') (F'.at x=some (.list [.ref g])) (F'.at g=some (.inst 702 d)) (F'.at d=some (d6 80 90 101 (num (.ofNat (r+1)) rc.nx) 16 (max 0 (cH rc bs.length - rc.nx)) 0 [] [])) (ao fns (n+9) b 977 [.ref 8,.int now] (hp s ⟨.ofNat (r+1),dl⟩ st a wh rc B F)=some (.ref x,hp s ⟨.ofNat (r+1),dl⟩ st ⟨0,none,a.gap⟩ {wh with D:=none,S:=S} {rc with te:=cH rc bs.length} B F')):=by
 obtain⟨F1,x,l1,hx0,hx,e1⟩:=E7 (n:=n) (b:=b) (s:=s) (a:=a) (wh:=wh) (rc:=rc) (B:=B) (F:=F) (r:=r) (dl:=dl) (now:=now) hst
 obtain⟨S,hS',e2⟩:=mI (n:=n+5) (b:=b) (s:=s) (c:=⟨.ofNat (r+1),dl⟩) (st:=st) (a:=⟨0,none,a.gap⟩) (rc:=rc) (B:=B) (F:=F1) hS hm
 have e3:=HD (n:=n+1) (F:=F1) hR (l1 _ _ h) w e2
 have e4:ao fns (n+8) b 92 [.ref 22,.int now] (hp s ⟨.ofNat (r+1),dl⟩ st a wh rc B F1)=some (.bool true,hp s ⟨.ofNat (r+1),dl⟩ st a wh rc B F1):=H9.trans (by rw[hd])
 have l2:F1.Le (F1.app [d6 80 90 101 (num (.ofNat (r+1)) rc.nx) 16 (max 0 (cH rc bs.length - rc.nx)) 0 [] [],.inst 702 F1.next]):=le_app
 have hne:x<F1.next:=by
  apply Nat.lt_of_not_le
  intro q
  rw[dP q]at hx
  cases hx
 refine⟨S,(F1.app [d6 80 90 101 (num (.ofNat (r+1)) rc.nx) 16 (max 0 (cH rc bs.length - rc.nx)) 0 [] [],.inst 702 F1.next]).set x (.list [.ref (F1.next+1)]),x,F1.next+1,F1.next,hS',(l1.trans l2).put hx0 (l2 _ _ hx),aW (l2 _ _ hx),?_,?_,?_⟩
 ·rw[bf (l2 _ _ hx) (by omega)];exact nK
 ·rw[bf (l2 _ _ hx) (Nat.ne_of_lt hne)];exact aH
 ·have p:=dR (fl:=b) (s:=s) (c:=⟨.ofNat (r+1),dl⟩) (st:=st) (a:=⟨0,none,a.gap⟩) (wh:={wh with D:=none,S:=S}) (rc:={rc with te:=cH rc bs.length}) (B:=B) (v:= .ref (F1.next+1)) (l2 _ _ hx) rfl
  apply aw (F:=qe) (loc:=[.ref 8,.int now,.unb]) rfl rfl rfl rfl;unfold qe;dsimp only
  apply ae;apply aA;apply aB;apply aa;exact ab rfl;apply aa;exact ab rfl;exact af;exact e1;exact nD;apply ae;apply aK;apply ax;apply ah;exact ab rfl;exact fe;exact qR;apply aa;exact ab rfl;exact af;exact e4;apply ae;apply bu;apply bP (m:=0);exact ab rfl;exact eN hx rfl;apply aa;apply aB;apply aa;exact ab rfl;exact af;exact e3;exact af;exact p;exact ar;apply aM;exact ab rfl
theorem zD{now:Int}{m:Nat}(hst:qW st)(hS:SB wh.S m)(hm:m≤1000)(hd:hK a now=false)(hD:a.due=none→wh.D=none):
  iX fun wh' F' x=>p8 (wh'.W=wh.W) (wh'.D.map (·.1)=a.due) (SB wh'.S (m+1)) (F.Le F') (F'.at x=some (.list [])) (ao fns (n+9) b 977 [.ref 8,.int now] (hp s ⟨.ofNat (r+1),dl⟩ st a wh rc B F)=some (.ref x,hp s ⟨.ofNat (r+1),dl⟩ st a wh' rc B F')):=by
 obtain⟨F1,x,l1,hx0,hx,e1⟩:=E7 (n:=n) (b:=b) (s:=s) (a:=a) (wh:=wh) (rc:=rc) (B:=B) (F:=F) (r:=r) (dl:=dl) (now:=now) hst
 have e4:ao fns (n+8) b 92 [.ref 22,.int now] (hp s ⟨.ofNat (r+1),dl⟩ st a wh rc B F1)=some (.bool false,hp s ⟨.ofNat (r+1),dl⟩ st a wh rc B F1):=H9.trans (by rw[hd])
 obtain⟨w0,due,g0⟩:=a
 cases due with
 |none=>
  refine⟨wh,F1,x,rfl,by rw[hD rfl];rfl,fun i hi=>Nat.le_succ_of_le (hS i hi),l1,hx,?_⟩
  apply aw (F:=qe) (loc:=[.ref 8,.int now,.unb]) rfl rfl rfl rfl;unfold qe;dsimp only
  apply ae;apply aA;apply aB;apply aa;exact ab rfl;apply aa;exact ab rfl;exact af;exact e1;exact nD;apply ae;apply aC;apply ax;apply ah;exact ab rfl;exact fe;exact qR;apply aa;exact ab rfl;exact af;exact e4;apply ae;apply aC;apply au;apply ax;apply ah;exact ab rfl;exact fe;exact nH;exact af;exact CD;exact aq;exact rfl;exact ar;exact ar;apply aM;exact ab rfl
 |some d=>
  obtain⟨S,hS',e2⟩:=CH (n:=n+6) (b:=b) (s:=s) (c:=⟨.ofNat (r+1),dl⟩) (st:=st) (a:=⟨w0,some d,g0⟩) (rc:=rc) (B:=B) (F:=F1) (t:=d) hS hm
  refine⟨⟨some (d,wh.g+1),wh.W,false,S,wh.g+1⟩,F1,x,rfl,rfl,hS',l1,hx,?_⟩
  apply aw (F:=qe) (loc:=[.ref 8,.int now,.unb]) rfl rfl rfl rfl;unfold qe;dsimp only
  apply ae;apply aA;apply aB;apply aa;exact ab rfl;apply aa;exact ab rfl;exact af;exact e1;exact nD;apply ae
  apply aC
  apply ax;apply ah;exact ab rfl;exact fe;exact qR;apply aa;exact ab rfl;exact af;(with_reducible assumption);apply ae
  apply aK
  apply au;apply ax;apply ah;exact ab rfl;exact fe;exact nH;exact af;exact CD;exact aq;exact rfl;apply ae;apply bu;apply ax;apply ah;exact ab rfl;exact iP;exact wN;apply aa;exact aq;apply aa;apply ax;apply ah;exact ab rfl;exact fe;exact nH;exact af;exact CD;exact af;exact e2;exact ar;exact ar;apply aM;exact ab rfl
end
section
variable{n:Nat}{b fl:Bool}{s:MO}{c:fw}{st:Nat}{a:aU}{wh:eg}{rc:eA}{B:ee}{F:bD}{H:HH}
theorem jk(len k:Nat):cw len (k:Int)=min k len:=by
 unfold cw
 rw[if_neg (by omega)]
 rfl
theorem ic{α:Type}(l:List α)(k:Nat):l.take (cw l.length (k:Int))=l.take k:=by
 rw[jk,Nat.min_def]
 split
 ·rfl
 ·rw[List.take_length,List.take_of_length_le (by omega)]
theorem ly{α:Type}(l:List α)(k:Nat):l.drop (cw l.length (k:Int))=l.drop k:=by
 rw[jk,Nat.min_def]
 split
 ·rfl
 ·rw[List.drop_length,List.drop_of_length_le (by omega)]
theorem qX{bs:List UInt8}{k:Nat}(hl:Nat.ble bs.length 1000000=true):dX (.bytes bs) .none (.int k) H=some (.bytes (bs.take k),H):=by
 show(if Nat.ble bs.length 1000000 then some (MV.bytes (bs.take (cw bs.length k)),H)else none)=_
 rw[if_pos hl,ic]
theorem pH{bs:List UInt8}{k:Nat}(hl:Nat.ble bs.length 1000000=true):dX (.bytes bs) (.int k) .none H=some (.bytes (bs.drop k),H):=by
 show(if Nat.ble bs.length 1000000 then some (MV.bytes (bs.drop (cw bs.length k)),H)else none)=_
 rw[if_pos hl,ly]
theorem nL{bs:List UInt8}{j k:Nat}(hl:Nat.ble bs.length 1000000=true)(hj:j≤bs.length)(hk:j≤k):dX (.bytes bs) (.int j) (.int k) H=some (.bytes ((bs.drop j).take (k - j)),H):=by
 show(if Nat.ble bs.length 1000000 then some (MV.bytes ((bs.take (cw bs.length k)).drop (cw bs.length j)),H)else none)=_
 rw[if_pos hl,ic,jk,Nat.min_eq_left hj,List.drop_take]
theorem nM{i:Nat}{bs:List UInt8}(h:F.at i=some (.barr bs))(hl:Nat.ble bs.length 1000000=true):barrAt (hp s c st a wh rc B F) i=some bs:=by
 unfold barrAt
 rw[dg h]
 exact if_pos hl
theorem zE{i:Nat}{bs:List UInt8}{k:Nat}(h:F.at i=some (.barr bs))(hl:Nat.ble bs.length 1000000=true):dX (.ref i) .none (.int k) (hp s c st a wh rc B F)=some (.ref F.next,hp s c st a wh rc B (F.app [.barr (bs.take k)])):=by
 show(match barrAt (hp s c st a wh rc B F) i with|some b=>_|none=>none)=_
 rw[nM h hl]
 show some (MV.ref F.next,hp s c st a wh rc B F++[MO.barr (bs.take (cw bs.length k))])=_
 rw[ic]
 rfl
theorem tQ{i:Nat}{bs:List UInt8}{k:Nat}(h:F.at i=some (.barr bs))(hl:Nat.ble bs.length 1000000=true):dX (.ref i) (.int k) .none (hp s c st a wh rc B F)=some (.ref F.next,hp s c st a wh rc B (F.app [.barr (bs.drop k)])):=by
 show(match barrAt (hp s c st a wh rc B F) i with|some b=>_|none=>none)=_
 rw[nM h hl]
 show some (MV.ref F.next,hp s c st a wh rc B F++[MO.barr (bs.drop (cw bs.length k))])=_
 rw[ly]
 rfl
theorem bytes_barr{i:Nat}{bs:List UInt8}(h:F.at i=some (.barr bs))(hl:Nat.ble bs.length 1000000=true):cu fl .bytes [.ref i] (hp s c st a wh rc B F)=some (.bytes bs,hp s c st a wh rc B F):=by
 have e:fA (.ref i) (hp s c st a wh rc B F)=some bs:=nM h hl
 show(match fA (.ref i) (hp s c st a wh rc B F)with|some b=>_|none=>none)=_
 rw[e]
theorem pI{bs:List UInt8}{k m:Nat}(hl:Nat.ble bs.length m=true):Nat.ble (bs.take k).length m=true:=Nat.ble_eq_true_of_le (Nat.le_trans (by rw[List.length_take];exact Nat.min_le_right _ _) (Nat.le_of_ble_eq_true hl))
theorem w4 {α:Type}(l:List α)(k:Nat):l.drop (l.take k).length=l.drop k:=by
 rw[List.length_take,Nat.min_def]
 split
 ·rfl
 ·rw[List.drop_length,List.drop_of_length_le (by omega)]
theorem Fd{bs:List UInt8}{k:Nat}(h:F.at rc.ry=some (.barr bs))(hl:Nat.ble bs.length 1000000=true):
  ao fns (n+1) b 1172 [.ref 45,.int k] (hp s c st a wh rc B F)=some (.bytes (bs.take k),hp s c st a wh {rc with ry:=(F.app [.barr (bs.take k)]).next} B ((F.app [.barr (bs.take k)]).app [.barr (bs.drop k)])):=by
 have p:=tQ (s:=s) (c:=c) (st:=st) (a:=a) (wh:=wh) (rc:=rc) (B:=B) (k:=(bs.take k).length) (aJ (L:=[.barr (bs.take k)]) h) hl
 rw[w4]at p
 apply aw (F:=uz) (loc:=[.ref 45,.int k,.unb]) rfl rfl rfl rfl;unfold uz;dsimp only
 apply ae;apply aA;apply aP;apply aa;apply eV;apply ah;exact ab rfl;exact gr;exact aq;exact ab rfl;exact zE h hl;exact af;exact bytes_barr aH (pI hl);exact nD;apply ae;apply aA;apply eV;apply ah;exact ab rfl;exact gr;apply aP;apply aa;exact ab rfl;exact af;exact bc (pI hl);exact aq;exact p;apply bw;exact ab rfl;exact Cu;apply aM;exact ab rfl
theorem Fe{R:Int}(hR:0<R)(x k:Int):num R (x+(R - k))=num R (x - k):=by
 unfold num
 rw[fm hR,fm hR,show R - 5+(x+(R - k))=R - 5+(x - k)+R by omega,Int.add_emod_right]
noncomputable def behind(rc:eA)(l:Nat):Int:=l+match rc.hf with
 |true=>1
 |false=>0
theorem AB{bs:List UInt8}(hR:256≤c.R)(h:F.at rc.ry=some (.barr bs))(hl:Nat.ble bs.length 1000000=true):ao fns (n+2) b 1186 [.ref 45] (hp s c st a wh rc B F)=some (.int (num c.R (rc.nx - behind rc bs.length)),hp s c st a wh rc B F):=by
 have e: ∀k,ao fns (n+1) b 28 [.int (num c.R rc.nx),.int (c.R - k),.int c.R] (hp s c st a wh rc B F)=some (.int (num c.R (rc.nx - k)),hp s c st a wh rc B F):=fun k=>by
  rw[pq hR,Fe (uW hR)]
 unfold behind
 obtain⟨nx,te,fa,hf,ua,ry,pr⟩:=rc
 cases hf with
 |true=>
  apply aw (F:=og) (loc:=[.ref 45,.unb]) rfl rfl rfl rfl;unfold og;dsimp only
  apply ae;apply aA;apply aF;apply aP;apply aa;apply ah;exact ab rfl;exact gr;exact af;exact iR h hl;apply dK;apply ah;exact ab rfl;exact dQ;exact aq;exact rfl;exact tL;apply aM;apply aB;apply aa;apply ah;exact ab rfl;exact cB;apply aa;apply aF;apply ah;exact ab rfl;exact bL;exact ab rfl;exact rfl;apply aa;apply ah;exact ab rfl;exact bL;exact af;exact e _
 |false=>
  apply aw (F:=og) (loc:=[.ref 45,.unb]) rfl rfl rfl rfl;unfold og;dsimp only
  apply ae;apply aA;apply aF;apply aP;apply aa;apply ah;exact ab rfl;exact gr;exact af;exact iR h hl;apply dM;apply ah;exact ab rfl;exact dQ;exact aq;exact rfl;exact tL;apply aM;apply aB;apply aa;apply ah;exact ab rfl;exact cB;apply aa;apply aF;apply ah;exact ab rfl;exact bL;exact ab rfl;exact rfl;apply aa;apply ah;exact ab rfl;exact bL;exact af;exact e _
noncomputable def tR(ua:Option Int)(rp p:Int):Bool:=decide (rp<p)&&(match ua with
  |none=>true
  |some u=>decide (u<p))
noncomputable def jl(ua:Option Int)(rp p:Int):Option Int:=match tR ua rp p with
 |true=>some p
 |false=>ua
theorem Ff{bs:List UInt8}{p:Int}(hR:256≤c.R)(h:F.at rc.ry=some (.barr bs))(hl:Nat.ble bs.length 1000000=true)(h1:rc.nx - behind rc bs.length - p<128)(h2:p - (rc.nx - behind rc bs.length)<128)
  (h3: ∀u,rc.ua=some u→u - p<128∧p - u<128):
  ao fns (n+3) b 1193 [.ref 45,.int (num c.R p)] (hp s c st a wh rc B F)=some (.none,hp s c st a wh {rc with ua:=jl rc.ua (rc.nx - behind rc bs.length) p} B F):=by
 have e:=AB (n:=n) (b:=b) (s:=s) (st:=st) (a:=a) (wh:=wh) (B:=B) hR h hl
 have e2:=mH (n:=n) (b:=b) (H:=hp s c st a wh rc B F) hR h1 h2
 generalize rc.nx - behind rc bs.length=rp at*
 unfold jl tR
 obtain⟨nx,te,fa,hf,ua,ry,pr⟩:=rc
 cases z:decide (rp<p)with
 |false=>
  rw[z]at e2
  cases ua with
  |none=>
   apply aN (F:=fi) (loc:=[.ref 45,.int (num c.R p)]) rfl rfl rfl rfl;unfold fi;dsimp only
   apply ae
   apply aK
   apply fc;apply au;apply ah;exact ab rfl;exact cX;exact aq;exact rfl;apply ae;apply aC;apply aB;apply aa;apply ax;exact ab rfl;exact gD;exact af;exact e;apply aa;exact ab rfl;apply aa;apply ah;exact ab rfl;exact bL;exact af;exact e2;exact ar;exact ar;exact ar
  |some u=>
   obtain⟨h4,h5⟩:=h3 u rfl
   have e3:=mH (n:=n) (b:=b) (H:=hp s c st a wh ⟨nx,te,fa,hf,some u,ry,pr⟩ B F) hR h4 h5
   dsimp only
   cases y:decide (u<p)with
   |true=>
    rw[y]at e3
    apply aN (F:=fi) (loc:=[.ref 45,.int (num c.R p)]) rfl rfl rfl rfl;unfold fi;dsimp only
    apply ae
    apply aK
    apply cf;apply au;apply ah;exact ab rfl;exact cX;exact aq;exact rfl;apply aB;apply aa;apply ah;exact ab rfl;exact cX;apply aa;exact ab rfl;apply aa;apply ah;exact ab rfl;exact bL;exact af;exact e3;apply ae
    apply aC
    apply aB;apply aa;apply ax;exact ab rfl;exact gD;exact af;exact e;apply aa;exact ab rfl;apply aa;apply ah;exact ab rfl;exact bL;exact af;exact e2;exact ar;exact ar;exact ar
   |false=>
    rw[y]at e3
    apply aN (F:=fi) (loc:=[.ref 45,.int (num c.R p)]) rfl rfl rfl rfl;unfold fi;dsimp only
    apply ae;apply aC;apply cf;apply au;apply ah;exact ab rfl;exact cX;exact aq;exact rfl;apply aB;apply aa;apply ah;exact ab rfl;exact cX;apply aa;exact ab rfl;apply aa;apply ah;exact ab rfl;exact bL;exact af;exact e3;exact ar;exact ar
 |true=>
  rw[z]at e2
  cases ua with
  |none=>
   apply aN (F:=fi) (loc:=[.ref 45,.int (num c.R p)]) rfl rfl rfl rfl;unfold fi;dsimp only
   apply ae;apply aK;apply fc;apply au;apply ah;exact ab rfl;exact cX;exact aq;exact rfl;apply ae;apply aK;apply aB;apply aa;apply ax;exact ab rfl;exact gD;exact af;exact e;apply aa;exact ab rfl;apply aa;apply ah;exact ab rfl;exact bL;exact af;exact e2;apply ae;apply aA;exact ab rfl;apply bw;exact ab rfl;exact wO;exact ar;exact ar;exact ar
  |some u=>
   obtain⟨h4,h5⟩:=h3 u rfl
   have e3:=mH (n:=n) (b:=b) (H:=hp s c st a wh ⟨nx,te,fa,hf,some u,ry,pr⟩ B F) hR h4 h5
   dsimp only
   cases y:decide (u<p)with
   |true=>
    rw[y]at e3
    apply aN (F:=fi) (loc:=[.ref 45,.int (num c.R p)]) rfl rfl rfl rfl;unfold fi;dsimp only
    apply ae
    apply aK
    apply cf;apply au;apply ah;exact ab rfl;exact cX;exact aq;exact rfl;apply aB;apply aa;apply ah;exact ab rfl;exact cX;apply aa;exact ab rfl;apply aa;apply ah;exact ab rfl;exact bL;exact af;exact e3;apply ae
    apply aK
    apply aB;apply aa;apply ax;exact ab rfl;exact gD;exact af;exact e;apply aa;exact ab rfl;apply aa;apply ah;exact ab rfl;exact bL;exact af;exact e2;apply ae;apply aA;exact ab rfl;apply bw;exact ab rfl;exact wO;exact ar;exact ar;exact ar
   |false=>
    rw[y]at e3
    apply aN (F:=fi) (loc:=[.ref 45,.int (num c.R p)]) rfl rfl rfl rfl;unfold fi;dsimp only
    apply ae;apply aC;apply cf;apply au;apply ah;exact ab rfl;exact cX;exact aq;exact rfl;apply aB;apply aa;apply ah;exact ab rfl;exact cX;apply aa;exact ab rfl;apply aa;apply ah;exact ab rfl;exact bL;exact af;exact e3;exact ar;exact ar
noncomputable def dr(ua:Option Int)(rp:Int):Option Int:=match ua with
 |none=>none
 |some u=>match decide (rp<u)with
  |true=>some u
  |false=>none
theorem Fg{bs:List UInt8}(hR:256≤c.R)(h:F.at rc.ry=some (.barr bs))(hl:Nat.ble bs.length 1000000=true)
  (h3: ∀u,rc.ua=some u→u - (rc.nx - behind rc bs.length)<128∧(rc.nx - behind rc bs.length) - u<128):
  ao fns (n+3) b 1200 [.ref 45] (hp s c st a wh rc B F)=some (.int (match dr rc.ua (rc.nx - behind rc bs.length)with|none=>0|some u=>u - (rc.nx - behind rc bs.length)),hp s c st a wh {rc with ua:=dr rc.ua (rc.nx - behind rc bs.length)} B F):=by
 have e:=AB (n:=n) (b:=b) (s:=s) (st:=st) (a:=a) (wh:=wh) (B:=B) hR h hl
 generalize rc.nx - behind rc bs.length=rp at*
 unfold dr
 obtain⟨nx,te,fa,hf,ua,ry,pr⟩:=rc
 cases ua with
 |none=>
  apply aw (F:=ke) (loc:=[.ref 45,.unb]) rfl rfl rfl rfl;unfold ke;dsimp only
  apply bE;apply au;apply ah;exact ab rfl;exact cX;exact aq;exact rfl;apply aM;exact aq
 |some u=>
  obtain⟨h4,h5⟩:=h3 u rfl
  dsimp only
  cases y:decide (rp<u)with
  |true=>
   have y:=of_decide_eq_true y
   apply aw (F:=ke) (loc:=[.ref 45,.unb]) rfl rfl rfl rfl;unfold ke;dsimp only
   apply ae;apply aC;apply au;apply ah;exact ab rfl;exact cX;exact aq;exact rfl;exact ar;apply ae;apply aA;apply ax;exact ab rfl;exact gD;exact af;exact e;exact tL;apply ae;apply aC;apply df;apply aB;apply aa;exact ab rfl;apply aa;apply ah;exact ab rfl;exact cX;apply aa;apply ah;exact ab rfl;exact bL;exact af;exact(mJ hR y h4);exact ar;apply aM;apply aB;apply aa;exact ab rfl;apply aa;apply ah;exact ab rfl;exact cX;apply aa;apply ah;exact ab rfl;exact bL;exact af;exact(g9 hR (Int.le_of_lt y) h4)
  |false=>
   have y:=Int.not_lt.mp (of_decide_eq_false y)
   apply aw (F:=ke) (loc:=[.ref 45,.unb]) rfl rfl rfl rfl;unfold ke;dsimp only
   apply ae
   apply aC
   apply au;apply ah;exact ab rfl;exact cX;exact aq;exact rfl;exact ar;apply ae;apply aA;apply ax;exact ab rfl;exact gD;exact af;exact e;exact tL;apply bE;apply bI;apply aB;apply aa;exact ab rfl;apply aa;apply ah;exact ab rfl;exact cX;apply aa;apply ah;exact ab rfl;exact bL;exact af;exact(jK hR y h5);apply ae;apply aA;exact aq;apply bw;exact ab rfl;exact zy;apply aM;exact aq
end
noncomputable def sl(σ:Nat→UInt8)(p:Nat):Nat→List UInt8
 |0=>[]
 |n+1=>σ p::sl σ (p+1) n
section
variable{σ:Nat→UInt8}
theorem bq: ∀{n p:Nat},(sl σ p n).length=n
 |0,_=>rfl
 |_+1,_=>congrArg (· +1) bq
theorem gE: ∀{n p k:Nat},k≤n→(sl σ p n).take k=sl σ p k
 |_,_,0,_=>by rw[List.take_zero];rfl
 |n+1,p,k+1,h=>congrArg (σ p:: ·) (gE (Nat.le_of_succ_le_succ h))
theorem gF: ∀{n p k:Nat},k≤n→(sl σ p n).drop k=sl σ (p+k) (n - k)
 |_,_,0,_=>rfl
 |n+1,p,k+1,h=>by
  show(sl σ (p+1) n).drop k=_
  rw[gF (Nat.le_of_succ_le_succ h),Nat.add_right_comm,Nat.add_sub_add_right]
  rfl
theorem qY: ∀{n p m:Nat},sl σ p n++sl σ (p+n) m=sl σ p (n+m)
 |0,p,m=>by rw[Nat.zero_add];rfl
 |n+1,p,m=>by
  rw[Nat.add_right_comm]
  show σ p::(sl σ (p+1) n++sl σ (p+(n+1)) m)=σ p::sl σ (p+1) (n+m)
  rw[show p+(n+1)=p+1+n from rE,qY]
theorem bM{n p:Nat}(h:n≤1000000):Nat.ble (sl σ p n).length 1000000=true:=by rw[bq];exact Nat.ble_eq_true_of_le h
theorem w6 {n p:Nat}:decide (sl σ p n=[])=decide (n=0):=by cases n<;>rfl
end
noncomputable abbrev jP:=Option (Nat×Nat)
noncomputable def cj(R:Int)(σ:Nat→UInt8)(p e:Nat):MV:= .tup [.int (num R p),.bytes (sl σ p (e - p))]
noncomputable def fx(R:Int)(σ:Nat→UInt8):jP→List MV
 |none=>[]
 |some (p,e)=>[cj R σ p e]
section
variable{n:Nat}{b fl:Bool}{s:MO}{c:fw}{st:Nat}{a:aU}{wh:eg}{rc:eA}{B:ee}{F:bD}{H:HH}{σ:Nat→UInt8}{x y:Int}{P:List MV}
theorem fy(hR:256≤c.R)(h1:x - y<128)(h2:y - x<128):ao fns (n+3) b 1010 [.ref 48,.int (num c.R x),.int (num c.R y)] (hp s c st a wh rc B F)=some (.int (x - y),hp s c st a wh rc B F):=by
 by_cases q:x<y
 ·rw[show x - y=0 - (y - x)from Bx]
  apply aw (F:=n4) (loc:=[.ref 48,.int (num c.R x),.int (num c.R y)]) rfl rfl rfl rfl;unfold n4;dsimp only
  apply bE;apply aB;apply aa;exact ab rfl;apply aa;exact ab rfl;apply aa;apply ah;exact ab rfl;exact pB;exact af;exact(mJ hR q h2);apply aM;apply aF;exact aq;apply aB;apply aa;exact ab rfl;apply aa;exact ab rfl;apply aa;apply ah;exact ab rfl;exact pB;exact af;exact(g9 hR (Int.le_of_lt q) h2);exact rfl
 ·have q:=Int.not_lt.mp q
  apply aw (F:=n4) (loc:=[.ref 48,.int (num c.R x),.int (num c.R y)]) rfl rfl rfl rfl;unfold n4;dsimp only
  apply ae;apply aC;apply aB;apply aa;exact ab rfl;apply aa;exact ab rfl;apply aa;apply ah;exact ab rfl;exact pB;exact af;exact(jK hR q h1);exact ar;apply aM;apply aB;apply aa;exact ab rfl;apply aa;exact ab rfl;apply aa;apply ah;exact ab rfl;exact pB;exact af;exact(g9 hR q h1)
theorem ej{i:Nat}{xs:List MV}(h:F.at i=some (.list xs)):listAt (hp s c st a wh rc B F) (.ref i)=some xs:=by
 unfold listAt
 dsimp only
 rw[dg h]
theorem eq_empty{i j:Nat}{xs:List MV}(h:F.at i=some (.list xs))(h':F.at j=some (.list [])):z5 (hp s c st a wh rc B F) (.ref i) (.ref j)=some xs.isEmpty:=by
 show(match listAt (hp s c st a wh rc B F) (.ref i)with|some xs=>_|none=>none)=_
 rw[ej h]
 show(match listAt (hp s c st a wh rc B F) (.ref j)with|some ys=>_|none=>none)=_
 rw[ej h']
 cases xs<;>rfl
theorem r7 {i j:Nat}{xs:List MV}(h:F.at i=some (.list xs))(h':F.at j=some (.list [])):aI .eq (.ref i) (.ref j) (hp s c st a wh rc B F)=some xs.isEmpty:=eq_empty h h'
theorem gO{i j:Nat}{xs:List MV}(h:F.at i=some (.list xs))(h':F.at j=some (.list [])):aI .ne (.ref i) (.ref j) (hp s c st a wh rc B F)=some (!xs.isEmpty):=g7 (eq_empty h h')
theorem Fh(h:F.at rc.pr=some (.list P)):ao fns (n+1) b 1003 [.ref 48] (hp s c st a wh rc B F)=some (.bool P.isEmpty,hp s c st a wh rc B (F.app [.list []])):=by
 apply aw (F:=uv) (loc:=[.ref 48]) rfl rfl rfl rfl;unfold uv;dsimp only
 apply aM;apply au;apply ah;exact ab rfl;exact cY;apply bl;exact af;exact rfl;exact r7 (aJ h) aH
theorem Fi(h:F.at rc.pr=some (.list P)):ao fns (n+2) b 1158 [.ref 45] (hp s c st a wh rc B F)=some (.bool (!P.isEmpty),hp s c st a wh rc B (F.app [.list []])):=by
 apply aw (F:=ux) (loc:=[.ref 45]) rfl rfl rfl rfl;unfold ux;dsimp only
 apply aM;apply eD;apply ax;apply ah;exact ab rfl;exact lr;exact zp;exact af;exact Fh h
theorem pJ{i j:Nat}{k:Int}{xs:List MV}{v:MV}(h:F.at i=some (.list xs))(hk:cJ xs.length k=some j)(hv:xs[j]? =some v):bN (.ref i) (.int k) (hp s c st a wh rc B F)=some v:=by
 show(match(hp s c st a wh rc B F)[i]? with|some c=>_|none=>none)=_
 rw[dg h]
 show(match cJ xs.length k with|some i=>xs[i]? |none=>none)=_
 rw[hk]
 exact hv
theorem w7 {y:MV}(h:F.at rc.pr=some (.list [])):ao fns (n+4) b 1045 [.ref 48,y] (hp s c st a wh rc B F)=some (.none,hp s c st a wh rc B (F.app [.list []])):=by
 apply aN (F:=n6) (loc:=[.ref 48,y,.unb,.unb,.unb]) rfl rfl rfl rfl;unfold n6;dsimp only
 apply ae;apply lb;apply zf;apply au;apply ah;exact ab rfl;exact cY;apply bl;exact af;exact rfl;exact gO (aJ h) aH;exact ar
theorem w8 {i:Nat}{xs:List MV}{v:MV}(h:F.at i=some (.list (v::xs))):bN (.ref i) (.int 0) (hp s c st a wh rc B F)=some v:=
 pJ (j:=0) h (by
  unfold cJ
  rw[if_pos (by decide),if_pos (by decide),if_pos (by rw[List.length_cons];exact mZ)]
  rfl) rfl
theorem qZ{p e:Nat}{N:Int}{r:List MV}(hR:256≤c.R)(h:F.at rc.pr=some (.list (cj c.R σ p e::r)))(h1:N≤p)(h2:(p:Int) - N<128):
  ao fns (n+4) b 1045 [.ref 48,.int (num c.R N)] (hp s c st a wh rc B F)=some (.none,hp s c st a wh rc B (F.app [.list []])):=by
 have z:aI .ge (.int (p - N)) (.int 0) (hp s c st a wh rc B (F.app [.list []]))=some true:=congrArg some (decide_eq_true (Int.sub_nonneg_of_le h1))
 unfold cj at h
 have h':=aJ (L:=[MO.list []]) h
 have h3:N - p<128:=uY h1
 apply aw (F:=n6) (loc:=[.ref 48,.int (num c.R N),.unb,.unb,.unb]) rfl rfl rfl rfl;unfold n6;dsimp only
 apply zg;apply Cb;apply au;apply ah;exact ab rfl;exact cY;apply bl;exact af;exact rfl;exact gO h' aH;apply ae;apply cN;apply az;apply ah;exact ab rfl;exact cY;exact aq;exact w8 h';apply aS;exact nD;apply aS;exact ph;exact bX;apply ae;apply aA;apply ax;exact ab rfl;exact cS;apply aa;exact ab rfl;apply aa;exact ab rfl;exact af;exact fy hR h2 h3;exact ik;apply bE;apply au;exact ab rfl;exact aq;exact z;apply aM;exact aq
theorem pK{i:Nat}{xs:List MV}{v:MV}(h:F.at i=some (.list (v::xs)))(hl:Nat.blt xs.length 1000000=true):dm fl 1 i [.int 0] (hp s c st a wh rc B F)=some (v,hp s c st a wh rc B (F.set i (.list xs))):=by
 show(match(hp s c st a wh rc B F)[i]? with|some c=>_|none=>none)=_
 rw[dg h]
 show(if Nat.blt xs.length 1000000 then some (v,(hp s c st a wh rc B F).set i (.list xs))else none)=_
 rw[if_pos hl,lj h]
theorem CJ{y:Int}(h:F.at rc.pr=some (.list [])):ao fns (n+5) b 1052 [.ref 48,.int y] (hp s c st a wh rc B F)=some (.bytes [],hp s c st a wh rc B ((F.app [.list []]).app [.list []])):=by
 apply aw (F:=j7) (loc:=[.ref 48,.int y]) rfl rfl rfl rfl;unfold j7;dsimp only
 apply ae;apply bu;apply ax;exact ab rfl;exact fK;apply aa;exact ab rfl;exact af;exact w7 h;apply bE;apply fc;apply au;apply ah;exact ab rfl;exact cY;apply bl;exact af;exact rfl;exact r7 (aJ (aJ h)) aH;apply aM;exact aq
theorem CM{p e:Nat}{N:Int}{r:List MV}(hR:256≤c.R)(h:F.at rc.pr=some (.list (cj c.R σ p e::r)))(h1:N<p)(h2:(p:Int) - N<128):
  ao fns (n+5) b 1052 [.ref 48,.int (num c.R N)] (hp s c st a wh rc B F)=some (.bytes [],hp s c st a wh rc B ((F.app [.list []]).app [.list []])):=by
 have e0:=qZ (n:=n) (b:=b) (s:=s) (st:=st) (a:=a) (wh:=wh) (B:=B) hR h (Int.le_of_lt h1) h2
 have h':=aJ (L:=[MO.list []]) (aJ (L:=[MO.list []]) h)
 have z:aI .ne (.int (num c.R p)) (.int (num c.R N)) (hp s c st a wh rc B ((F.app [.list []]).app [.list []]))=some true:=by
  show some (!decide (num c.R p=num c.R N))=_
  rw[decide_eq_false (by rw[nG hR h2 (uY (Int.le_of_lt h1))];exact Int.ne_of_gt h1)]
  rfl
 unfold cj at h'
 apply aw (F:=j7) (loc:=[.ref 48,.int (num c.R N)]) rfl rfl rfl rfl;unfold j7;dsimp only
 apply ae;apply bu;apply ax;exact ab rfl;exact fK;apply aa;exact ab rfl;exact af;exact e0;apply bE;apply cf;apply au;apply ah;exact ab rfl;exact cY;apply bl;exact af;exact rfl;exact r7 h' aH;apply au;apply az;apply az;apply ah;exact ab rfl;exact cY;exact aq;exact w8 h';exact aq;exact rfl;exact ab rfl;exact z;apply aM;exact aq
theorem CN{e:Nat}{N:Nat}{r:List MV}(hR:256≤c.R)(h:F.at rc.pr=some (.list (cj c.R σ N e::r)))(hr:Nat.blt r.length 1000000=true):
  ao fns (n+5) b 1052 [.ref 48,.int (num c.R N)] (hp s c st a wh rc B F)=some (.bytes (sl σ N (e - N)),hp s c st a wh rc B (((F.app [.list []]).app [.list []]).set rc.pr (.list r))):=by
 have e0:=qZ (n:=n) (b:=b) (s:=s) (st:=st) (a:=a) (wh:=wh) (B:=B) hR h (Int.le_refl _) (uU (Nat.le_refl N))
 have h':=aJ (L:=[MO.list []]) (aJ (L:=[MO.list []]) h)
 have z:aI .ne (.int (num c.R N)) (.int (num c.R N)) (hp s c st a wh rc B ((F.app [.list []]).app [.list []]))=some false:=by
  show some (!decide (num c.R N=num c.R N))=_
  rw[decide_eq_true rfl]
  rfl
 unfold cj at h'
 apply aw (F:=j7) (loc:=[.ref 48,.int (num c.R N)]) rfl rfl rfl rfl;unfold j7;dsimp only
 apply ae;apply bu;apply ax;exact ab rfl;exact fK;apply aa;exact ab rfl;exact af;exact e0;apply ae;apply aC;apply cf;apply au;apply ah;exact ab rfl;exact cY;apply bl;exact af;exact rfl;exact r7 h' aH;apply au;apply az;apply az;apply ah;exact ab rfl;exact cY;exact aq;exact w8 h';exact aq;exact rfl;exact ab rfl;exact z;exact ar;apply aM;apply az;apply bP (m:=1);apply ah;exact ab rfl;exact cY;exact eN h' rfl;apply aa;exact aq;exact af;exact pK h' hr;exact aq;exact rfl
end
noncomputable def w9 (N:Int)(σ:Nat→UInt8)(p e:Nat):MV:= .tup [.int (p - N),.bytes (sl σ p (e - p))]
section
variable{n:Nat}{b fl:Bool}{s:MO}{c:fw}{st:Nat}{a:aU}{wh:eg}{rc:eA}{B:ee}{F:bD}{H:HH}{σ:Nat→UInt8}{x y:Nat}{P:List MV}{N:Int}{u5 u6 u7 u8:MV}{p e q z:Nat}
theorem gx(h:p≤e):cI .add (.int (p - N)) (.int ((e - p:Nat):Int)) H=some (.int (e - N),H):=by
 show some (MV.int (p - N+((e - p:Nat):Int)),H)=_
 rw[show(p:Int) - N+((e - p:Nat):Int)=e - N from Bv h]
theorem pL{fs:List MV}{v:MV}(h:F.at y=some (.list (fs++[v])))(hl:fs.length<999999):cJ (fs++[v]).length (-1)=some fs.length:=by
 unfold cJ
 rw[List.length_append,if_pos (by decide),if_neg (by decide),if_pos (by show(0:Int)≤ -1+((fs.length+1:Nat):Int);exact yk)]
 show some (-1+((fs.length+1:Nat):Int)).toNat=_
 rw[show -1+((fs.length+1:Nat):Int)=(fs.length:Int)from uZ]
 rfl
theorem xc{fs:List MV}{v:MV}:(fs++[v])[fs.length]? =some v:=by
 rw[List.getElem?_append_right (Nat.le_refl _),Nat.sub_self]
 rfl
theorem xf{fs:List MV}{v w:MV}(h:F.at y=some (.list (fs++[v])))(hl:fs.length<999999):cT (.ref y) (.int (-1)) w (hp s c st a wh rc B F)=some (hp s c st a wh rc B (F.set y (.list (fs++[w])))):=by
 show(match(hp s c st a wh rc B F)[y]? with|some (.list xs)=>_|some (.dictS es)=>_|some (.dictI es)=>_|_=>none)=_
 rw[dg h]
 show(cJ (fs++[v]).length (-1)).map (fun i=>(hp s c st a wh rc B F).set y (.list ((fs++[v]).set i w)))=_
 rw[pL h hl]
 show some ((hp s c st a wh rc B F).set y (.list ((fs++[v]).set fs.length w)))=_
 rw[List.set_append_right _ _ (Nat.le_refl _),Nat.sub_self,lj h]
 rfl
noncomputable def pM:fY:=match lP.body with
 | .cons _ (.cons (.forr _ _ _ q) _)=>q
 |_=> .nil
theorem pN{fs:List MV}{ev:MV}(hR:256≤c.R)(h:F.at y=some (.list fs))(hl:Nat.blt fs.length 1000000=true)(hz:Nat.ble (sl σ p (e - p)).length 1000000=true)(he:p≤e)
  (hv: ∀H,aI .eq ev (.int (p - N)) H=some false)(hu:bU [.unb,ev] 1=some ev):
  bQ (ao fns (n+1)) b pM [.ref 48,.ref x,.int (num c.R N),.ref y,ev,.int (p - N),.bytes (sl σ p (e - p)),u7,u8] (hp s c st a wh rc B F)=
   some (.next,[.ref 48,.ref x,.int (num c.R N),.ref y,.int (e - N),.int (p - N),.bytes (sl σ p (e - p)),u7,u8],hp s c st a wh rc B (F.set y (.list (fs++[cj c.R σ p e])))):=by
 have e0:ao fns (n+1) b 28 [.int (num c.R N),.int (p - N),.int c.R] (hp s c st a wh rc B F)=some (.int (num c.R p),hp s c st a wh rc B F):=by
  rw[pq hR,show N+(p - N)=(p:Int)from Bw]
 have ln: ∀H,cu b .len [.bytes (sl σ p (e - p))] H=some (.int ((e - p:Nat):Int),H):=fun H=>by rw[bc hz,bq]
 have l4: ∀H,bo (ao fns (n+1)) b (.l 4) [.ref 48,.ref x,.int (num c.R N),.ref y,ev,.int (p - N),.bytes (sl σ p (e - p)),u7,u8] H=some (ev,H):=fun H=>ab hu
 unfold cj
 unfold pM lP;dsimp only
 apply ae;apply aC;apply au;exact l4 _;exact ab rfl;exact hv _;apply ae;apply bu;apply bP (m:=0);exact ab rfl;exact eN h rfl;apply aa;apply bH;apply aa;apply aB;apply aa;exact ab rfl;apply aa;exact ab rfl;apply aa;apply ah;exact ab rfl;exact pB;exact af;exact e0;apply aa;exact ab rfl;exact af;exact rfl;exact af;exact dR h hl;exact ar;apply ae;apply aA;apply aF;exact ab rfl;apply aP;apply aa;exact ab rfl;exact af;exact ln _;exact gx he;exact ik;exact ar
theorem q0 {fs:List MV}(h:F.at y=some (.list (fs++[cj c.R σ q p])))(hl:fs.length<999999)(hz:Nat.ble (sl σ p (e - p)).length 1000000=true)(hz':e≤1000)(hq:q≤p)(he:p≤e):
  bQ (ao fns (n+1)) b pM [.ref 48,.ref x,.int (num c.R N),.ref y,.int (p - N),.int (p - N),.bytes (sl σ p (e - p)),u7,u8] (hp s c st a wh rc B F)=
   some (.next,[.ref 48,.ref x,.int (num c.R N),.ref y,.int (e - N),.int (p - N),.bytes (sl σ p (e - p)),.int (num c.R q),.bytes (sl σ q (p - q))],hp s c st a wh rc B (F.set y (.list (fs++[cj c.R σ q e])))):=by
 have ln: ∀H,cu b .len [.bytes (sl σ p (e - p))] H=some (.int ((e - p:Nat):Int),H):=fun H=>by rw[bc hz,bq]
 have z0: ∀H,aI .eq (.int (p - N)) (.int (p - N)) H=some true:=fun H=>congrArg some (decide_eq_true rfl)
 have z1:cI .add (.bytes (sl σ q (p - q))) (.bytes (sl σ p (e - p))) (hp s c st a wh rc B F)=some (.bytes (sl σ q (e - q)),hp s c st a wh rc B F):=by
  show(if Nat.ble ((sl σ q (p - q)).length+(sl σ p (e - p)).length) 1000000 then some (MV.bytes (sl σ q (p - q)++sl σ p (e - p)),_)else none)=_
  have h0:p - q+(e - p)=e - q:=(Nat.add_comm _ _).trans (Nat.sub_add_sub_cancel he hq)
  have:=qY (σ:=σ) (n:=p - q) (p:=q) (m:=e - p)
  rw[Nat.add_sub_of_le hq,h0]at this
  rw[bq,bq,h0,this]
  exact if_pos (Nat.ble_eq_true_of_le (Nat.le_trans (Nat.sub_le _ _) (Nat.le_trans hz' (by decide))))
 have g1:bN (.ref y) (.int (-1)) (hp s c st a wh rc B F)=some (cj c.R σ q p):=pJ h (pL h hl) xc
 unfold cj at h g1⊢
 have s1:=xf (s:=s) (c:=c) (st:=st) (a:=a) (wh:=wh) (rc:=rc) (B:=B) (w:= .tup [.int (num c.R q),.bytes (sl σ q (e - q))]) h hl
 unfold pM lP;dsimp only
 apply ae;apply aK;apply au;exact ab rfl;exact ab rfl;exact z0 _;apply ae;apply cN;apply az;exact ab rfl;apply nC;exact aq;exact g1;apply aS;exact Df;apply aS;exact Hf;exact bX;apply ae;apply aA;apply bH;apply aa;exact ab rfl;apply aa;apply aF;exact ab rfl;exact ab rfl;exact z1;exact af;exact rfl;apply bp;exact ab rfl;apply nC;exact aq;exact s1;exact ar;apply ae;apply aA;apply aF;exact ab rfl;apply aP;apply aa;exact ab rfl;exact af;exact ln _;exact gx he;exact ik;exact ar
noncomputable def dU(R:Int)(σ:Nat→UInt8)(l:List (Nat×Nat)):List MV:=l.map fun p=>cj R σ p.1 p.2
noncomputable def fV(N:Int)(σ:Nat→UInt8)(l:List (Nat×Nat)):List MV:=l.map fun p=>w9 N σ p.1 p.2
theorem r8 {H':HH}{v4 v5 v6 v7 v8:MV}(h:ek (eI [5,6] false) (fun l h=>bQ (ao fns (n+1)) b pM l h) (.ref x) 64 0 [.ref 48,.ref x,.int (num c.R N),.ref F.next,.none,.unb,.unb,.unb,.unb] (hp s c st a wh rc B (F.app [.list []]))=
   some (.next,[.ref 48,.ref x,.int (num c.R N),.ref F.next,v4,v5,v6,v7,v8],H')):ao fns (n+2) b 1038 [.ref 48,.ref x,.int (num c.R N)] (hp s c st a wh rc B F)=some (.ref F.next,H'):=by
 apply aw (F:=lP) (loc:=[.ref 48,.ref x,.int (num c.R N),.unb,.unb,.unb,.unb,.unb,.unb]) rfl rfl rfl rfl;unfold lP;dsimp only
 apply ae;apply cN;apply bH;apply aa;apply bl;exact af;exact rfl;apply aa;exact aq;exact af;exact rfl;apply aS;exact ph;apply aS;exact ik;exact bX;apply ae;apply eE;exact ab rfl;exact h;apply aM;exact ab rfl
noncomputable def lL(p e:Nat):Prop:=p≤e∧e≤1000
theorem lL.ble (h:lL p e):Nat.ble (sl σ p (e - p)).length 1000000=true:=bM (Nat.le_trans (Nat.sub_le _ _) (Nat.le_trans h.2 (by decide)))
theorem old_ne{o:MO}(h:F.at x=some o):F.next≠x:=fun e=>by rw[←e,dP (Nat.le_refl _)]at h;cases h
theorem zF(hR:256≤c.R)(hx:F.at x=some (.list (fV N σ [(p,e)])))(h1:lL p e):dk fun F' y=>bx (F.Le F') (F'.at y=some (.list (dU c.R σ [(p,e)]))) (ao fns (n+2) b 1038 [.ref 48,.ref x,.int (num c.R N)] (hp s c st a wh rc B F)=some (.ref y,hp s c st a wh rc B F')):=by
 have e1:=pN (σ:=σ) (n:=n) (b:=b) (s:=s) (st:=st) (a:=a) (wh:=wh) (rc:=rc) (B:=B) (x:=x) (N:=N) (u7:= .unb) (u8:= .unb) (ev:= .none) hR (aH (F:=F) (o:= .list []) (L:=[])) rfl h1.ble h1.1 (fun _=>rfl) rfl
 have hx1:=aJ (L:=[.list []]) hx
 have hx2:=(bf (o':= .list (dU c.R σ [(p,e)])) (aH (F:=F) (o:= .list []) (L:=[])) (old_ne hx)).trans hx1
 exact⟨_,_,le_app.put (dP (Nat.le_refl _)) aH,aW aH,r8 (bR (item_at hx1) rfl e1 (cg (item_at hx2)))⟩
theorem xg{p' e':Nat}(hR:256≤c.R)(hx:F.at x=some (.list (fV N σ [(p,e),(p',e')])))(h1:lL p e)(h2:lL p' e')(hn:e≠p'):dk fun F' y=>bx (F.Le F') (F'.at y=some (.list (dU c.R σ [(p,e),(p',e')]))) (ao fns (n+2) b 1038 [.ref 48,.ref x,.int (num c.R N)] (hp s c st a wh rc B F)=some (.ref y,hp s c st a wh rc B F')):=by
 have e1:=pN (σ:=σ) (n:=n) (b:=b) (s:=s) (st:=st) (a:=a) (wh:=wh) (rc:=rc) (B:=B) (x:=x) (N:=N) (u7:= .unb) (u8:= .unb) (ev:= .none) hR (aH (F:=F) (o:= .list []) (L:=[])) rfl h1.ble h1.1 (fun _=>rfl) rfl
 have hx1:=aJ (L:=[.list []]) hx
 have hx2:=(bf (o':= .list (dU c.R σ [(p,e)])) (aH (F:=F) (o:= .list []) (L:=[])) (old_ne hx)).trans hx1
 have e2:=pN (σ:=σ) (n:=n) (b:=b) (s:=s) (st:=st) (a:=a) (wh:=wh) (rc:=rc) (B:=B) (x:=x) (N:=N) (u7:= .unb) (u8:= .unb) (ev:= .int (e - N)) hR (aW (o':= .list (dU c.R σ [(p,e)])) (aH (F:=F) (o:= .list []) (L:=[]))) rfl h2.ble h2.1
  (fun _=>congrArg some (decide_eq_false (DZ hn))) rfl
 have hx3:=(bf (o':= .list (dU c.R σ [(p,e),(p',e')])) (aW (o':= .list (dU c.R σ [(p,e)])) (aH (F:=F) (o:= .list []) (L:=[]))) (old_ne hx)).trans hx2
 exact⟨_,_,(le_app.put (dP (Nat.le_refl _)) aH).put (dP (Nat.le_refl _)) (aW aH),aW (aW aH),r8 (bR (item_at hx1) rfl e1 (bR (item_at hx2) rfl e2 (cg (item_at hx3))))⟩
theorem iS(hR:256≤c.R)(hx:F.at x=some (.list (fV N σ [(p,e),(e,z)])))(h1:lL p e)(h2:lL e z):dk fun F' y=>bx (F.Le F') (F'.at y=some (.list (dU c.R σ [(p,z)]))) (ao fns (n+2) b 1038 [.ref 48,.ref x,.int (num c.R N)] (hp s c st a wh rc B F)=some (.ref y,hp s c st a wh rc B F')):=by
 have e1:=pN (σ:=σ) (n:=n) (b:=b) (s:=s) (st:=st) (a:=a) (wh:=wh) (rc:=rc) (B:=B) (x:=x) (N:=N) (u7:= .unb) (u8:= .unb) (ev:= .none) hR (aH (F:=F) (o:= .list []) (L:=[])) rfl h1.ble h1.1 (fun _=>rfl) rfl
 have hx1:=aJ (L:=[.list []]) hx
 have hx2:=(bf (o':= .list (dU c.R σ [(p,e)])) (aH (F:=F) (o:= .list []) (L:=[])) (old_ne hx)).trans hx1
 have e2:=q0 (σ:=σ) (n:=n) (b:=b) (s:=s) (st:=st) (a:=a) (wh:=wh) (rc:=rc) (B:=B) (x:=x) (N:=N) (u7:= .unb) (u8:= .unb) (fs:=[]) (aW (o':= .list (dU c.R σ [(p,e)])) (aH (F:=F) (o:= .list []) (L:=[]))) (by decide) h2.ble h2.2 h1.1 h2.1
 have hx3:=(bf (o':= .list (dU c.R σ [(p,z)])) (aW (o':= .list (dU c.R σ [(p,e)])) (aH (F:=F) (o:= .list []) (L:=[]))) (old_ne hx)).trans hx2
 exact⟨_,_,(le_app.put (dP (Nat.le_refl _)) aH).put (dP (Nat.le_refl _)) (aW aH),aW (aW aH),r8 (bR (item_at hx1) rfl e1 (bR (item_at hx2) rfl e2 (cg (item_at hx3))))⟩
theorem zG{t:Nat}(hR:256≤c.R)(hx:F.at x=some (.list (fV N σ [(p,e),(e,z),(z,t)])))(h1:lL p e)(h2:lL e z)(h3:lL z t):dk fun F' y=>bx (F.Le F') (F'.at y=some (.list (dU c.R σ [(p,t)]))) (ao fns (n+2) b 1038 [.ref 48,.ref x,.int (num c.R N)] (hp s c st a wh rc B F)=some (.ref y,hp s c st a wh rc B F')):=by
 have e1:=pN (σ:=σ) (n:=n) (b:=b) (s:=s) (st:=st) (a:=a) (wh:=wh) (rc:=rc) (B:=B) (x:=x) (N:=N) (u7:= .unb) (u8:= .unb) (ev:= .none) hR (aH (F:=F) (o:= .list []) (L:=[])) rfl h1.ble h1.1 (fun _=>rfl) rfl
 have hx1:=aJ (L:=[.list []]) hx
 have g1:=aW (o':= .list (dU c.R σ [(p,e)])) (aH (F:=F) (o:= .list []) (L:=[]))
 have hx2:=(bf (o':= .list (dU c.R σ [(p,e)])) (aH (F:=F) (o:= .list []) (L:=[])) (old_ne hx)).trans hx1
 have e2:=q0 (σ:=σ) (n:=n) (b:=b) (s:=s) (st:=st) (a:=a) (wh:=wh) (rc:=rc) (B:=B) (x:=x) (N:=N) (u7:= .unb) (u8:= .unb) (fs:=[]) g1 (by decide) h2.ble h2.2 h1.1 h2.1
 have g2:=aW (o':= .list (dU c.R σ [(p,z)])) g1
 have hx3:=(bf (o':= .list (dU c.R σ [(p,z)])) g1 (old_ne hx)).trans hx2
 have e3:=q0 (σ:=σ) (n:=n) (b:=b) (s:=s) (st:=st) (a:=a) (wh:=wh) (rc:=rc) (B:=B) (x:=x) (N:=N) (u7:= .int (num c.R p)) (u8:= .bytes (sl σ p (e - p))) (fs:=[]) g2 (by decide) h3.ble h3.2 (Nat.le_trans h1.1 h2.1) h3.1
 have hx4:=(bf (o':= .list (dU c.R σ [(p,t)])) g2 (old_ne hx)).trans hx3
 exact⟨_,_,((le_app.put (dP (Nat.le_refl _)) aH).put (dP (Nat.le_refl _)) g1).put (dP (Nat.le_refl _)) g2,aW g2,r8 (bR (item_at hx1) rfl e1 (bR (item_at hx2) rfl e2 (bR (item_at hx3) rfl e3 (cg (item_at hx4)))))⟩
end
section
variable{n:Nat}{b fl:Bool}{s:MO}{c:fw}{st:Nat}{a:aU}{wh:eg}{rc:eA}{B:ee}{F:bD}{H:HH}{σ:Nat→UInt8}{x y:Nat}{P:List MV}{N:Int}{p e q z f g:Nat}
theorem add_lists{i j:Nat}{xs ys:List MV}(h:F.at i=some (.list xs))(h':F.at j=some (.list ys))(hl:Nat.ble (xs.length+ys.length) 1000000=true):
  cI .add (.ref i) (.ref j) (hp s c st a wh rc B F)=some (.ref F.next,hp s c st a wh rc B (F.app [.list (xs++ys)])):=by
 show(match listAt (hp s c st a wh rc B F) (.ref i)with|some xs=>_|none=>none)=_
 rw[ej h]
 show(match listAt (hp s c st a wh rc B F) (.ref j)with|some xs=>_|none=>none)=_
 rw[ej h']
 exact if_pos hl
theorem copy_list{i:Nat}{xs:List MV}(h:F.at i=some (.list xs))(hl:Nat.ble xs.length 1000000=true):cu fl .list [.ref i] (hp s c st a wh rc B F)=some (.ref F.next,hp s c st a wh rc B (F.app [.list xs])):=by
 show(match listAt (hp s c st a wh rc B F) (.ref i)with|some xs=>_|none=>none)=_
 rw[ej h]
 exact if_pos hl
theorem zH(hx:F.at x=some (.list (fV N σ [(f,g)])))(hp0:F.at rc.pr=some (.list [])):dk fun F' y=>bx (F.Le F') (F'.at y=some (.list (fV N σ [(f,g)]))) (ao fns (n+4) b 1031 [.ref 48,.ref x,.int (num c.R N)] (hp s c st a wh rc B F)=some (.ref y,hp s c st a wh rc B F')):=by
 refine⟨((F.app [.list []]).app [.list (fV N σ [(f,g)])]).app [.list ([]++fV N σ [(f,g)])],_,(le_app.trans le_app).trans le_app,aH,?_⟩
 apply aw (F:=n5) (loc:=[.ref 48,.ref x,.int (num c.R N),.unb,.unb,.unb,.unb,.unb]) rfl rfl rfl rfl;unfold n5;dsimp only
 apply ae;apply cN;apply bH;apply aa;apply bl;exact af;exact rfl;apply aa;apply aP;apply aa;exact ab rfl;exact af;exact copy_list (aJ hx) rfl;exact af;exact rfl;apply aS;exact ph;apply aS;exact ik;exact bX;apply ae;apply eE;apply ah;exact ab rfl;exact cY;exact cg (gw (aJ (aJ hp0)));apply aM;apply aF;exact ab rfl;exact ab rfl;exact add_lists (aJ aH) aH rfl
noncomputable def AD(y x:Nat)(F F':bD):Prop:= ∀i o,y≠i→x≠i→F.at i=some o→F'.at i=some o
theorem AD.trans {y x:Nat}{F F' F'':bD}(h:AD y x F F')(h':AD y x F' F''):AD y x F F'':=fun i o a b c=>h' i o a b (h i o a b c)
theorem bD.Le.two {y x:Nat}{F F':bD}(h:F.Le F'):AD y x F F':=fun i o _ _ c=>h i o c
noncomputable def pO:IE:= .and (.cmp .ne (.l 4) (.lst .nil)) (.cmp .lt (.sub (.sub (.l 4) (.c (.int 0))) (.c (.int 0))) (.l 7))
noncomputable def HE:fY:= .cons (.ex (.meth (.l 3) 0 (.cons (.meth (.l 4) 1 (.cons (.c (.int 0)) .nil)) .nil))) .nil
noncomputable def r9:fY:= .cons (.assign (.loc 7) (.meth (.l 0) 107 (.cons (.l 5) (.cons (.l 2) .nil)))) (.cons (.whil pO HE) (.cons (.ex (.meth (.l 3) 0 (.cons (.tup (.cons (.l 7) (.cons (.l 6) .nil))) .nil))) .nil))
noncomputable abbrev mK (n k:Nat)(loc:Loc)(H:HH):=fS (fun l h=>bo (ao fns n) false pO l h) (fun l h=>bQ (ao fns n) false HE l h) k loc H
variable{xv:Nat}{R':MV}{u5 u6:MV}{fs rs:List MV}
theorem AE(hy:F.at y=some (.list fs))(hx:F.at x=some (.list (w9 N σ f g::rs)))(hn:y≠x)(h1:f<p)(hl:Nat.blt fs.length 1000000=true)(hr:Nat.blt rs.length 1000000=true):
  ∃F',cC (AD y x F F') (F'.at y=some (.list (fs++[w9 N σ f g]))) (F'.at x=some (.list rs)) (∀u5 u6 k r,mK n k [.ref 48,.ref xv,R',.ref y,.ref x,u5,u6,.int (p - N)] (hp s c st a wh rc B F')=r→mK n (k+1) [.ref 48,.ref xv,R',.ref y,.ref x,u5,u6,.int (p - N)] (hp s c st a wh rc B F)=r):=by
 have hx1:=aJ (L:=[.list []]) hx
 have hy1:=aJ (L:=[.list []]) hy
 have hy2:=(bf (o':= .list rs) hx1 hn.symm).trans hy1
 have z1: ∀H,aI .lt (.int (f - N)) (.int (p - N)) H=some true:=fun _=>congrArg some (decide_eq_true (rC h1))
 refine⟨_,fun i o h1 h2 h=> ?_,aW hy2,(bf hy2 hn).trans (aW hx1),fun u5 u6 k r h=>EM (H1:=hp s c st a wh rc B (F.app [.list []])) ?_ ?_ h⟩
 ·rw[bf hy2 h1,bf hx1 h2];exact aJ h
 ·unfold w9 at*
  unfold pO
  apply aZ;apply au;exact ab rfl;apply bl;exact af;exact rfl;exact gO hx1 aH;apply au;apply az;apply az;exact ab rfl;exact aq;exact w8 hx1;exact aq;exact rfl;exact ab rfl;exact z1 _
 ·unfold HE
  apply ae;apply bu;apply bP (m:=0);exact ab rfl;exact eN hy1 rfl;apply aa;apply bP (m:=1);exact ab rfl;exact eN hx1 rfl;apply aa;exact aq;exact af;exact pK hx1 hr;exact af;exact dR hy2 hl;exact ar
theorem Fj(hx:F.at x=some (.list []))(k:Nat):mK n (k+1) [.ref 48,.ref xv,R',.ref y,.ref x,u5,u6,.int (p - N)] (hp s c st a wh rc B F)=some (.next,[.ref 48,.ref xv,R',.ref y,.ref x,u5,u6,.int (p - N)],hp s c st a wh rc B (F.app [.list []])):=by
 apply zf
 unfold pO
 apply bK;apply au;exact ab rfl;apply bl;exact af;exact rfl;exact gO (aJ hx) aH
theorem Fm(hx:F.at x=some (.list (w9 N σ f g::rs)))(h1:p≤f)(k:Nat):mK n (k+1) [.ref 48,.ref xv,R',.ref y,.ref x,u5,u6,.int (p - N)] (hp s c st a wh rc B F)=some (.next,[.ref 48,.ref xv,R',.ref y,.ref x,u5,u6,.int (p - N)],hp s c st a wh rc B (F.app [.list []])):=by
 have z1: ∀H,aI .lt (.int (f - N)) (.int (p - N)) H=some false:=fun _=>congrArg some (decide_eq_false (qk h1))
 apply zf
 unfold w9 at*
 unfold pO
 apply aZ;apply au;exact ab rfl;apply bl;exact af;exact rfl;exact gO (aJ hx) aH;apply au;apply az;apply az;exact ab rfl;exact aq;exact w8 (aJ hx);exact aq;exact rfl;exact ab rfl;exact z1 _
theorem HF{F':bD}{u7:MV}(hR:256≤c.R)(h2:(p:Int) - N<128)(h3:N - p<128)
  (hw:mK (n+3) 64 [.ref 48,.ref xv,.int (num c.R N),.ref y,.ref x,.int (num c.R p),.bytes (sl σ p (e - p)),.int (p - N)] (hp s c st a wh rc B F)=some (.next,[.ref 48,.ref xv,.int (num c.R N),.ref y,.ref x,.int (num c.R p),.bytes (sl σ p (e - p)),.int (p - N)],hp s c st a wh rc B F'))
  (hy:F'.at y=some (.list fs))(hl:Nat.blt fs.length 1000000=true):
  bQ (ao fns (n+3)) b r9 [.ref 48,.ref xv,.int (num c.R N),.ref y,.ref x,.int (num c.R p),.bytes (sl σ p (e - p)),u7] (hp s c st a wh rc B F)=
   some (.next,[.ref 48,.ref xv,.int (num c.R N),.ref y,.ref x,.int (num c.R p),.bytes (sl σ p (e - p)),.int (p - N)],hp s c st a wh rc B (F'.set y (.list (fs++[w9 N σ p e])))):=by
 unfold w9
 unfold r9
 apply ae;apply aA;apply ax;exact ab rfl;exact cS;apply aa;exact ab rfl;apply aa;exact ab rfl;exact af;exact fy hR h2 h3;exact Df;apply ae;apply lb;exact hw;apply ae;apply bu;apply bP (m:=0);exact ab rfl;exact eN hy rfl;apply aa;apply bH;apply aa;exact ab rfl;apply aa;exact ab rfl;exact af;exact rfl;exact af;exact dR hy hl;exact ar
theorem Fp{F':bD}{v7:MV}{L1 L2:List MV}(hx:F.at xv=some (.list P))(hPl:Nat.ble P.length 1000000=true)(hp0:F.at rc.pr=some (.list [cj c.R σ p e]))
  (hb:bQ (ao fns (n+3)) b r9 [.ref 48,.ref xv,.int (num c.R N),.ref F.next,.ref (F.app [.list []]).next,.int (num c.R p),.bytes (sl σ p (e - p)),.unb] (hp s c st a wh rc B ((F.app [.list []]).app [.list P]))=
   some (.next,[.ref 48,.ref xv,.int (num c.R N),.ref F.next,.ref (F.app [.list []]).next,.int (num c.R p),.bytes (sl σ p (e - p)),v7],hp s c st a wh rc B F'))
  (h1:F'.at F.next=some (.list L1))(h2:F'.at (F.app [.list []]).next=some (.list L2))(hl:Nat.ble (L1.length+L2.length) 1000000=true)(hp1:F'.at rc.pr=some (.list [cj c.R σ p e])):
  ao fns (n+4) b 1031 [.ref 48,.ref xv,.int (num c.R N)] (hp s c st a wh rc B F)=some (.ref F'.next,hp s c st a wh rc B (F'.app [.list (L1++L2)])):=by
 have i0:=item_at (s:=s) (c:=c) (st:=st) (a:=a) (wh:=wh) (rc:=rc) (B:=B) (j:=0) (aJ (L:=[.list P]) (aJ (L:=[.list []]) hp0))
 have lp:=bR (bd:=eI [5,6] false) (body:=fun l h=>bQ (ao fns (n+3)) b r9 l h) (k:=63) (loc:=[.ref 48,.ref xv,.int (num c.R N),.ref F.next,.ref (F.app [.list []]).next,.unb,.unb,.unb]) i0 rfl hb (cg (item_at hp1))
 apply aw (F:=n5) (loc:=[.ref 48,.ref xv,.int (num c.R N),.unb,.unb,.unb,.unb,.unb]) rfl rfl rfl rfl;unfold n5;dsimp only
 apply ae;apply cN;apply bH;apply aa;apply bl;exact af;exact rfl;apply aa;apply aP;apply aa;exact ab rfl;exact af;exact copy_list (aJ hx) hPl;exact af;exact rfl;apply aS;exact ph;apply aS;exact ik;exact bX;apply ae;apply eE;apply ah;exact ab rfl;exact cY;exact lp;apply aM;apply aF;exact ab rfl;exact ab rfl;exact add_lists h1 h2 hl
theorem next_ne:F.next≠(F.app [.list []]).next:=fun e=>by have:=dP (F:=F.app [.list []]) (Nat.le_of_eq e.symm);rw[aH]at this;cases this
theorem tS:F.at (F.app [.list []]).next=none:=dP (by unfold bD.next bD.app;dsimp only;rw[List.length_append];exact Nat.add_le_add_right (Nat.le_add_right (List.length F.G) [MO.list []].length) 53)
theorem xh{F2:bD}{L:List (Nat×Nat)}{L2:List (Nat×Nat)}(hR:256≤c.R)(hx:F.at xv=some (.list P))(hPl:Nat.ble P.length 1000000=true)(hp0:F.at rc.pr=some (.list [cj c.R σ p e]))(h2:(p:Int) - N<128)(h3:N - p<128)
  (hl2:AD F.next (F.app [.list []]).next ((F.app [.list []]).app [.list P]) F2)(hy:F2.at F.next=some (.list (fV N σ L)))(hr:F2.at (F.app [.list []]).next=some (.list (fV N σ L2)))(hb1:L.length≤10)(hb2:L2.length≤10)
  (hw: ∀u5 u6,mK (n+3) 64 [.ref 48,.ref xv,.int (num c.R N),.ref F.next,.ref (F.app [.list []]).next,u5,u6,.int (p - N)] (hp s c st a wh rc B ((F.app [.list []]).app [.list P]))=some (.next,[.ref 48,.ref xv,.int (num c.R N),.ref F.next,.ref (F.app [.list []]).next,u5,u6,.int (p - N)],hp s c st a wh rc B F2)):
  dk fun F' y=>bx (F.Le F') (F'.at y=some (.list (fV N σ (L++[(p,e)]++L2)))) (ao fns (n+4) b 1031 [.ref 48,.ref xv,.int (num c.R N)] (hp s c st a wh rc B F)=some (.ref y,hp s c st a wh rc B F')):=by
 have n1:F.at F.next=none:=dP (Nat.le_refl _)
 have l2:F.Le F2:=fun i o h=>hl2 i o (fun e=>by rw[←e,n1]at h;cases h) (fun e=>by rw[←e,tS]at h;cases h) (aJ (aJ h))
 have l3:=l2.put n1 hy (o':= .list (fV N σ L++[w9 N σ p e]))
 have hb1':(fV N σ L).length≤10:=by unfold fV;rw[List.length_map];exact hb1
 have hb2':(fV N σ L2).length≤10:=by unfold fV;rw[List.length_map];exact hb2
 have it:=HF (σ:=σ) (b:=b) (e:=e) (u7:= .unb) hR h2 h3 (hw _ _) hy (Nat.ble_eq_true_of_le (Nat.le_trans (Nat.succ_le_succ hb1') (by decide)))
 have r:=Fp hx hPl hp0 it (aW hy) ((bf hy next_ne).trans hr) (Nat.ble_eq_true_of_le (by rw[List.length_append];show _+1+_≤_;exact G2 hb1' hb2')) (l3 _ _ hp0)
 refine⟨_,_,l3.trans le_app,aH.trans ?_,r⟩
 unfold fV
 rw[List.map_append,List.map_append]
 rfl
theorem nN(hR:256≤c.R)(hx:F.at xv=some (.list (fV N σ [(f,g)])))(hp0:F.at rc.pr=some (.list [cj c.R σ p e]))(h2:(p:Int) - N<128)(h3:N - p<128)(h:f<p):
  dk fun F' y=>bx (F.Le F') (F'.at y=some (.list (fV N σ [(f,g),(p,e)]))) (ao fns (n+4) b 1031 [.ref 48,.ref xv,.int (num c.R N)] (hp s c st a wh rc B F)=some (.ref y,hp s c st a wh rc B F')):=by
 obtain⟨F1,a1,a2,a3,a4⟩:=AE (n:=n+3) (s:=s) (c:=c) (st:=st) (a:=a) (wh:=wh) (rc:=rc) (B:=B) (F:=(F.app [.list []]).app [.list (fV N σ [(f,g)])]) (xv:=xv) (R':= .int (num c.R N)) (p:=p) (rs:=[]) (fs:=[]) (aJ aH) aH next_ne h rfl rfl
 exact xh (L:=[(f,g)]) (L2:=[]) hR hx rfl hp0 h2 h3 (a1.trans le_app.two) (aJ a2) (aJ a3) (Nat.le_of_ble_eq_true rfl) (Nat.le_of_ble_eq_true rfl) fun u5 u6=>a4 u5 u6 63 _ (Fj a3 62)
theorem zI(hR:256≤c.R)(hx:F.at xv=some (.list (fV N σ [(q,p),(e,z)])))(hp0:F.at rc.pr=some (.list [cj c.R σ p e]))(h2:(p:Int) - N<128)(h3:N - p<128)(h:q<p)(h':p≤e):
  dk fun F' y=>bx (F.Le F') (F'.at y=some (.list (fV N σ [(q,p),(p,e),(e,z)]))) (ao fns (n+4) b 1031 [.ref 48,.ref xv,.int (num c.R N)] (hp s c st a wh rc B F)=some (.ref y,hp s c st a wh rc B F')):=by
 obtain⟨F1,a1,a2,a3,a4⟩:=AE (n:=n+3) (s:=s) (c:=c) (st:=st) (a:=a) (wh:=wh) (rc:=rc) (B:=B) (F:=(F.app [.list []]).app [.list (fV N σ [(q,p),(e,z)])]) (xv:=xv) (R':= .int (num c.R N)) (p:=p) (rs:=fV N σ [(e,z)]) (fs:=[]) (aJ aH) aH next_ne h rfl rfl
 exact xh (L:=[(q,p)]) (L2:=[(e,z)]) hR hx rfl hp0 h2 h3 (a1.trans le_app.two) (aJ a2) (aJ a3) (Nat.le_of_ble_eq_true rfl) (Nat.le_of_ble_eq_true rfl) fun u5 u6=>a4 u5 u6 63 _ (Fm a3 h' 62)
theorem sa(hR:256≤c.R)(hx:F.at xv=some (.list (fV N σ [(f,g)])))(hp0:F.at rc.pr=some (.list [cj c.R σ p e]))(h2:(p:Int) - N<128)(h3:N - p<128)(h:p≤f):
  dk fun F' y=>bx (F.Le F') (F'.at y=some (.list (fV N σ [(p,e),(f,g)]))) (ao fns (n+4) b 1031 [.ref 48,.ref xv,.int (num c.R N)] (hp s c st a wh rc B F)=some (.ref y,hp s c st a wh rc B F')):=
 xh (L:=[]) (L2:=[(f,g)]) hR hx rfl hp0 h2 h3 le_app.two (aJ (aJ aH)) (aJ aH) (Nat.le_of_ble_eq_true rfl) (Nat.le_of_ble_eq_true rfl) fun u5 u6=>Fm aH h 63
end
section
variable{n:Nat}{b fl:Bool}{s:MO}{c:fw}{st:Nat}{a:aU}{wh:eg}{rc:eA}{B:ee}{F:bD}{H:HH}{σ:Nat→UInt8}{x y:Nat}{P:List MV}{N:Int}{p e q z t:Nat}{v7 v8 v9 v10:MV}{fs:List (Nat×Nat)}
noncomputable def iT:fY:=match gL.body with
 | .cons _ (.cons _ (.cons (.forr _ _ _ q) _))=>q
 |_=> .nil
theorem sub_pos{q t:Nat}(h:q≤t):cI .sub (.int (t - N)) (.int (q - N)) H=some (.int ((t - q:Nat):Int),H):=by
 show some (MV.int (t - N - (q - N)),H)=_
 rw[show(t:Int) - N - (q - N)=((t - q:Nat):Int)from qh h]
theorem pP{F1:bD}(hq:q≤z)(hz:z≤1000)
  (hl:ek (eI [7,8] false) (fun l h=>bQ (ao fns (n+3)) b iT l h) (.ref rc.pr) 64 0 [.ref 48,.int (q - N),.bytes (sl σ q (z - q)),.int (num c.R N),.int (z - N),.ref F.next,.int (q - N),.unb,.unb,.unb,.unb] (hp s c st a wh rc B (F.app [.list []]))=
   some (.next,[.ref 48,.int (q - N),.bytes (sl σ q (z - q)),.int (num c.R N),.int (z - N),.ref F.next,.int (t - N),v7,v8,v9,v10],hp s c st a wh rc B F1))
  (hy:F1.at F.next=some (.list (fV N σ fs)))(hf:fs.length≤10)(ht:q≤t)(hle:AD F.next F.next (F.app [.list []]) F1):
  dk fun F' y=>cC (F.Le F') (F.at y=none) (F'.at y=some (.list (fV N σ (fs++match decide (t<z)with|true=>[(t,z)]|false=>[])))) (ao fns (n+4) b 1024 [.ref 48,.int (q - N),.bytes (sl σ q (z - q)),.int (num c.R N)] (hp s c st a wh rc B F)=some (.ref y,hp s c st a wh rc B F')):=by
 have n1:F.at F.next=none:=dP (Nat.le_refl _)
 have l1:F.Le F1:=fun i o h=>hle i o (fun e=>by rw[←e,n1]at h;cases h) (fun e=>by rw[←e,n1]at h;cases h) (aJ h)
 have ln: ∀H,cu b .len [.bytes (sl σ q (z - q))] H=some (.int ((z - q:Nat):Int),H):=fun H=>by rw[bc (bM (Nat.le_trans (Nat.sub_le z q) (Nat.le_trans hz (by decide)))),bq]
 cases ht':decide (t<z)with
 |true=>
  have ht1:=of_decide_eq_true ht'
  have z1: ∀H,aI .lt (.int (t - N)) (.int (z - N)) H=some true:=fun _=>congrArg some (decide_eq_true (rC ht1))
  have z2: ∀H,dX (.bytes (sl σ q (z - q))) (.int ((t - q:Nat):Int)) .none H=some (.bytes (sl σ t (z - t)),H):=fun H=>by
   rw[pH (bM (Nat.le_trans (Nat.sub_le z q) (Nat.le_trans hz (by decide)))),gF (Nat.sub_le_sub_right (Nat.le_of_lt ht1) q),Nat.add_sub_of_le ht,show z - q - (t - q)=z - t from Nat.sub_sub_sub_cancel_right ht]
  have hb:Nat.blt (fV N σ fs).length 1000000=true:=Nat.ble_eq_true_of_le (by unfold fV;rw[List.length_map];exact Nat.le_trans (Nat.succ_le_succ hf) (by decide))
  refine⟨_,_,l1.put n1 hy (o':= .list (fV N σ fs++[w9 N σ t z])),n1,(aW hy).trans (by unfold fV;rw[List.map_append];rfl),?_⟩
  unfold w9
  apply aw (F:=gL) (loc:=[.ref 48,.int (q - N),.bytes (sl σ q (z - q)),.int (num c.R N),.unb,.unb,.unb,.unb,.unb,.unb,.unb]) rfl rfl rfl rfl;unfold gL;dsimp only
  apply ae;apply aA;apply aF;exact ab rfl;apply aP;apply aa;exact ab rfl;exact af;exact ln _;exact gx hq;exact ik;apply ae;apply cN;apply bH;apply aa;apply bl;exact af;exact rfl;apply aa;exact ab rfl;exact af;exact rfl;apply aS;exact t6;apply aS;exact xU;exact bX;apply ae;apply eE;apply ah;exact ab rfl;exact cY;exact hl;apply ae;apply aK;apply au;exact ab rfl;exact ab rfl;exact z1 _;apply ae;apply bu;apply bP (m:=0);exact ab rfl;exact eN hy rfl;apply aa;apply bH;apply aa;exact ab rfl;apply aa;apply eV;exact ab rfl;apply aF;exact ab rfl;exact ab rfl;exact sub_pos ht;exact aq;exact z2 _;exact af;exact rfl;exact af;exact dR hy hb;exact ar;apply aM;exact ab rfl
 |false=>
  have ht1:=of_decide_eq_false ht'
  have z1: ∀H,aI .lt (.int (t - N)) (.int (z - N)) H=some false:=fun _=>congrArg some (decide_eq_false (qk (Nat.not_lt.mp ht1)))
  refine⟨_,_,l1,n1,hy.trans (by rw[List.append_nil]),?_⟩
  apply aw (F:=gL) (loc:=[.ref 48,.int (q - N),.bytes (sl σ q (z - q)),.int (num c.R N),.unb,.unb,.unb,.unb,.unb,.unb,.unb]) rfl rfl rfl rfl;unfold gL;dsimp only
  apply ae;apply aA;apply aF;exact ab rfl;apply aP;apply aa;exact ab rfl;exact af;exact ln _;exact gx hq;exact ik;apply ae;apply cN;apply bH;apply aa;apply bl;exact af;exact rfl;apply aa;exact ab rfl;exact af;exact rfl;apply aS;exact t6;apply aS;exact xU;exact bX;apply ae;apply eE;apply ah;exact ab rfl;exact cY;exact hl;apply ae;apply aC;apply au;exact ab rfl;exact ab rfl;exact z1 _;exact ar;apply aM;exact ab rfl
section
variable(hR:256≤c.R)(h2:(p:Int) - N<128)(h3:N - p<128)(hpe:p≤e)(he:e≤1000)
include hR h2 h3 hpe he
theorem CO(h:e≤q):bQ (ao fns (n+3)) b iT [.ref 48,.int (q - N),.bytes (sl σ q (z - q)),.int (num c.R N),.int (z - N),.ref y,.int (q - N),.int (num c.R p),.bytes (sl σ p (e - p)),.unb,.unb] (hp s c st a wh rc B F)=
  some (.cont,[.ref 48,.int (q - N),.bytes (sl σ q (z - q)),.int (num c.R N),.int (z - N),.ref y,.int (q - N),.int (num c.R p),.bytes (sl σ p (e - p)),.int (p - N),.int (e - N)],hp s c st a wh rc B F):=by
 have ln: ∀H,cu b .len [.bytes (sl σ p (e - p))] H=some (.int ((e - p:Nat):Int),H):=fun H=>by rw[bc (bM (Nat.le_trans (Nat.sub_le e p) (HY he))),bq]
 have z1: ∀H,aI .le (.int (e - N)) (.int (q - N)) H=some true:=fun _=>congrArg some (decide_eq_true (uS h))
 unfold iT gL;dsimp only
 apply ae;apply aA;apply ax;exact ab rfl;exact cS;apply aa;exact ab rfl;apply aa;exact ab rfl;exact af;exact fy hR h2 h3;exact Dg;apply ae;apply aA;apply aF;exact ab rfl;apply aP;apply aa;exact ab rfl;exact af;exact ln _;exact gx hpe;exact pj;apply zc;apply au;exact ab rfl;exact ab rfl;exact z1 _;exact ze
theorem Fq(h:q<e)(h':z≤p):bQ (ao fns (n+3)) b iT [.ref 48,.int (q - N),.bytes (sl σ q (z - q)),.int (num c.R N),.int (z - N),.ref y,.int (q - N),.int (num c.R p),.bytes (sl σ p (e - p)),.unb,.unb] (hp s c st a wh rc B F)=
  some (.brk,[.ref 48,.int (q - N),.bytes (sl σ q (z - q)),.int (num c.R N),.int (z - N),.ref y,.int (q - N),.int (num c.R p),.bytes (sl σ p (e - p)),.int (p - N),.int (e - N)],hp s c st a wh rc B F):=by
 have ln: ∀H,cu b .len [.bytes (sl σ p (e - p))] H=some (.int ((e - p:Nat):Int),H):=fun H=>by rw[bc (bM (Nat.le_trans (Nat.sub_le e p) (Nat.le_trans he (by decide)))),bq]
 have z1: ∀H,aI .le (.int (e - N)) (.int (q - N)) H=some false:=fun _=>congrArg some (decide_eq_false (kh h))
 have z2: ∀H,aI .ge (.int (p - N)) (.int (z - N)) H=some true:=fun _=>congrArg some (decide_eq_true (uS h'))
 unfold iT gL;dsimp only
 apply ae;apply aA;apply ax;exact ab rfl;exact cS;apply aa;exact ab rfl;apply aa;exact ab rfl;exact af;exact fy hR h2 h3;exact Dg;apply ae;apply aA;apply aF;exact ab rfl;apply aP;apply aa;exact ab rfl;exact af;exact ln _;exact gx hpe;exact pj;apply ae
 apply aC
 apply au;exact ab rfl;exact ab rfl;exact z1 _;exact ar;apply zd;apply au;exact ab rfl;exact ab rfl;exact z2 _;exact Ca
theorem Fs(hqz:q≤z)(hz:z≤1000)(h:q<e)(h':p<z)(h4:q<p)(hy:F.at y=some (.list [])):bQ (ao fns (n+3)) b iT [.ref 48,.int (q - N),.bytes (sl σ q (z - q)),.int (num c.R N),.int (z - N),.ref y,.int (q - N),.int (num c.R p),.bytes (sl σ p (e - p)),.unb,.unb] (hp s c st a wh rc B F)=
  some (.next,[.ref 48,.int (q - N),.bytes (sl σ q (z - q)),.int (num c.R N),.int (z - N),.ref y,.int (e - N),.int (num c.R p),.bytes (sl σ p (e - p)),.int (p - N),.int (e - N)],hp s c st a wh rc B (F.set y (.list (fV N σ [(q,p)])))):=by
 have ln: ∀H,cu b .len [.bytes (sl σ p (e - p))] H=some (.int ((e - p:Nat):Int),H):=fun H=>by rw[bc (bM (Nat.le_trans (Nat.sub_le e p) (Nat.le_trans he (by decide)))),bq]
 have z1: ∀H,aI .le (.int (e - N)) (.int (q - N)) H=some false:=fun _=>congrArg some (decide_eq_false (kh h))
 have z2: ∀H,aI .ge (.int (p - N)) (.int (z - N)) H=some false:=fun _=>congrArg some (decide_eq_false (kh h'))
 have z3: ∀H,aI .gt (.int (p - N)) (.int (q - N)) H=some true:=fun _=>congrArg some (decide_eq_true (rC h4))
 have b1: ∀H,cI .sub (.int (q - N)) (.int (q - N)) H=some (.int ((0:Nat):Int),H):=fun H=>by rw[sub_pos (Nat.le_refl q),Nat.sub_self]
 have b2: ∀H,dX (.bytes (sl σ q (z - q))) (.int ((0:Nat):Int)) (.int ((p - q:Nat):Int)) H=some (.bytes (sl σ q (p - q)),H):=fun H=>by
  rw[nL (bM (Nat.le_trans (Nat.sub_le z q) (Nat.le_trans hz (by decide)))) (Nat.zero_le _) (Nat.zero_le _)]
  show some (MV.bytes ((sl σ q (z - q)).take (p - q)),H)=_
  rw[gE (Nat.sub_le_sub_right (Nat.le_of_lt h') q)]
 unfold iT gL;dsimp only
 apply ae;apply aA;apply ax;exact ab rfl;exact cS;apply aa;exact ab rfl;apply aa;exact ab rfl;exact af;exact fy hR h2 h3;exact Dg;apply ae;apply aA;apply aF;exact ab rfl;apply aP;apply aa;exact ab rfl;exact af;exact ln _;exact gx hpe;exact pj;apply ae
 apply aC
 apply au;exact ab rfl;exact ab rfl;exact z1 _;exact ar;apply ae
 apply aC
 apply au;exact ab rfl;exact ab rfl;exact z2 _;exact ar;apply ae
 apply aK
 apply au;exact ab rfl;exact ab rfl;exact z3 _;apply ae;apply bu;apply bP (m:=0);exact ab rfl;exact eN hy rfl;apply aa;apply bH;apply aa;exact ab rfl;apply aa;apply eV;exact ab rfl;apply aF;exact ab rfl;exact ab rfl;exact b1 _;apply aF;exact ab rfl;exact ab rfl;exact sub_pos (Nat.le_of_lt h4);exact b2 _;exact af;exact rfl;exact af;exact dR hy rfl;exact ar;apply ae;apply aA;exact ab rfl;exact xU;exact ar
theorem Ft(h:q<e)(h':p<z)(h4:p≤q):bQ (ao fns (n+3)) b iT [.ref 48,.int (q - N),.bytes (sl σ q (z - q)),.int (num c.R N),.int (z - N),.ref y,.int (q - N),.int (num c.R p),.bytes (sl σ p (e - p)),.unb,.unb] (hp s c st a wh rc B F)=
  some (.next,[.ref 48,.int (q - N),.bytes (sl σ q (z - q)),.int (num c.R N),.int (z - N),.ref y,.int (e - N),.int (num c.R p),.bytes (sl σ p (e - p)),.int (p - N),.int (e - N)],hp s c st a wh rc B F):=by
 have ln: ∀H,cu b .len [.bytes (sl σ p (e - p))] H=some (.int ((e - p:Nat):Int),H):=fun H=>by rw[bc (bM (Nat.le_trans (Nat.sub_le e p) (Nat.le_trans he (by decide)))),bq]
 have z1: ∀H,aI .le (.int (e - N)) (.int (q - N)) H=some false:=fun _=>congrArg some (decide_eq_false (kh h))
 have z2: ∀H,aI .ge (.int (p - N)) (.int (z - N)) H=some false:=fun _=>congrArg some (decide_eq_false (kh h'))
 have z3: ∀H,aI .gt (.int (p - N)) (.int (q - N)) H=some false:=fun _=>congrArg some (decide_eq_false (qk h4))
 unfold iT gL;dsimp only
 apply ae;apply aA;apply ax;exact ab rfl;exact cS;apply aa;exact ab rfl;apply aa;exact ab rfl;exact af;exact fy hR h2 h3;exact Dg;apply ae;apply aA;apply aF;exact ab rfl;apply aP;apply aa;exact ab rfl;exact af;exact ln _;exact gx hpe;exact pj;apply ae;apply aC;apply au;exact ab rfl;exact ab rfl;exact z1 _;exact ar;apply ae;apply aC;apply au;exact ab rfl;exact ab rfl;exact z2 _;exact ar;apply ae;apply aC;apply au;exact ab rfl;exact ab rfl;exact z3 _;exact ar;apply ae;apply aA;exact ab rfl;exact xU;exact ar
end
noncomputable abbrev fN (n:Nat)(b:Bool)(s:MO)(c:fw)(st:Nat)(a:aU)(wh:eg)(rc:eA)(B:ee)(σ:Nat→UInt8)(N:Int)(F:bD)(q z:Nat)(l:List (Nat×Nat)):Prop:=
 dk fun F' y=>cC (F.Le F') (F.at y=none) (F'.at y=some (.list (fV N σ l))) (ao fns (n+4) b 1024 [.ref 48,.int (q - N),.bytes (sl σ q (z - q)),.int (num c.R N)] (hp s c st a wh rc B F)=some (.ref y,hp s c st a wh rc B F'))
noncomputable def iU(t z:Nat):List (Nat×Nat):=match decide (t<z)with
 |true=>[(t,z)]
 |false=>[]
theorem zJ(hq:q≤z)(hz:z≤1000)(hp0:F.at rc.pr=some (.list [])):fN n b s c st a wh rc B σ N F q z (iU q z):=
 pP (fs:=[]) hq hz (cg (gw (aJ hp0))) aH (by decide) (Nat.le_refl q) (fun _ _ _ _ h=>h)
section
variable(hR:256≤c.R)(h2:(p:Int) - N<128)(h3:N - p<128)(hpe:p≤e)(he:e≤1000)(hq:q≤z)(hz:z≤1000)(hp0:F.at rc.pr=some (.list [cj c.R σ p e]))
include hR h2 h3 hpe he hq hz hp0
theorem se(h:e≤q):fN n b s c st a wh rc B σ N F q z (iU q z):=
 pP (fs:=[]) hq hz (zh (item_at (aJ hp0)) rfl (CO hR h2 h3 hpe he h) (cg (item_at (aJ hp0)))) aH (by decide) (Nat.le_refl q) (fun _ _ _ _ h=>h)
theorem sf(h:q<e)(h':z≤p):fN n b s c st a wh rc B σ N F q z (iU q z):=
 pP (fs:=[]) hq hz (Cc (item_at (aJ hp0)) rfl (Fq hR h2 h3 hpe he h h')) aH (by decide) (Nat.le_refl q) (fun _ _ _ _ h=>h)
theorem pQ(h:q<e)(h':p<z)(h4:p≤q):fN n b s c st a wh rc B σ N F q z (iU e z):=
 pP (fs:=[]) hq hz (bR (item_at (aJ hp0)) rfl (Ft hR h2 h3 hpe he h h' h4) (cg (item_at (aJ hp0)))) aH (by decide) (Nat.le_of_lt h) (fun _ _ _ _ h=>h)
theorem xi(h:q<e)(h':p<z)(h4:q<p):fN n b s c st a wh rc B σ N F q z ([(q,p)]++iU e z):=
 pP (fs:=[(q,p)]) hq hz (bR (item_at (aJ hp0)) rfl (Fs hR h2 h3 hpe he hq hz h h' h4 aH) (cg (item_at ((bf aH (old_ne hp0)).trans (aJ hp0))))) (aW aH) (Nat.le_of_ble_eq_true rfl) (Nat.le_of_lt h) (fun i o h _ hi=>by rw[bf aH h];exact hi)
end
end
section
variable{n:Nat}{b fl:Bool}{s:MO}{c:fw}{st:Nat}{a:aU}{wh:eg}{rc:eA}{B:ee}{F:bD}{H:HH}{σ:Nat→UInt8}{x y:Nat}{P:List MV}{p e q z nn bg k:Nat}
noncomputable def AF(n:Nat)(b:Bool)(s:MO)(c:fw)(st:Nat)(a:aU)(wh:eg)(rc:eA)(B:ee)(σ:Nat→UInt8)(N:Int)(P:List MV)(l l2:List (Nat×Nat)):Prop:=
 ∀(F:bD)(x:Nat),F.at x=some (.list (fV N σ l))→F.at rc.pr=some (.list P)→dk fun F' y=>bx (F.Le F') (F'.at y=some (.list (fV N σ l2))) (ao fns (n+4) b 1031 [.ref 48,.ref x,.int (num c.R N)] (hp s c st a wh rc B F)=some (.ref y,hp s c st a wh rc B F'))
noncomputable def AG(n:Nat)(b:Bool)(s:MO)(c:fw)(st:Nat)(a:aU)(wh:eg)(rc:eA)(B:ee)(σ:Nat→UInt8)(N:Int)(l2 l3:List (Nat×Nat)):Prop:=
 ∀(F:bD)(x:Nat),F.at x=some (.list (fV N σ l2))→dk fun F' y=>bx (F.Le F') (F'.at y=some (.list (dU c.R σ l3))) (ao fns (n+2) b 1038 [.ref 48,.ref x,.int (num c.R N)] (hp s c st a wh rc B F)=some (.ref y,hp s c st a wh rc B F'))
noncomputable def mL(n:Nat)(b:Bool)(s:MO)(c:fw)(st:Nat)(a:aU)(wh:eg)(rc:eA)(B:ee)(N:Int)(F:bD):Prop:=
 ao fns (n+4) b 1045 [.ref 48,.int (num c.R N)] (hp s c st a wh rc B F)=some (.none,hp s c st a wh rc B (F.app [.list []]))
noncomputable def pR(bg k nn q z:Nat):Prop:=(bg<nn∧q=nn∧((bg+k≤nn∧z=nn)∨(nn≤bg+k∧z=bg+k)))∨(nn≤bg∧q=bg∧z=bg+k)
theorem xj(hk:k≤1000)(h:bg<nn)(hz:(bg+k≤nn∧z=nn)∨(nn≤bg+k∧z=bg+k)):dX (.bytes (sl σ bg k)) (.int (0 - ((bg:Int) - nn))) .none H=some (.bytes (sl σ nn (z - nn)),H):=by
 rw[show(0 - ((bg:Int) - nn))=((nn - bg:Nat):Int)from DW (Nat.le_of_lt h),pH (bM (Nat.le_trans hk (by decide)))]
 rcases hz with⟨h',e⟩|⟨h',e⟩
 ·rw[List.drop_of_length_le (by rw[bq];exact Nat.le_sub_of_add_le' h'),e,Nat.sub_self]
  rfl
 ·rw[gF (Nat.sub_le_iff_le_add'.mpr h'),Nat.add_sub_of_le (Nat.le_of_lt h),e,Nat.sub_sub_right k (Nat.le_of_lt h),Nat.add_comm k bg]
theorem AH(hR:256≤c.R)(hk:k≤1000)(hf:mL n b s c st a wh rc B (nn:Int) F)(h1:(bg:Int) - nn<128)(h2:(nn:Int) - bg<128)(hc:pR bg k nn q z)(hm:fN n b s c st a wh rc B σ (nn:Int) (F.app [.list []]) q z []):
  ∃F',F.Le F'∧ao fns (n+5) b 1017 [.ref 48,.int (num c.R bg),.bytes (sl σ bg k),.int (num c.R nn)] (hp s c st a wh rc B F)=some (.none,hp s c st a wh rc B F'):=by
 obtain⟨F1,y,l1,y0,hy,e1⟩:=hm
 unfold mL at hf
 refine⟨F1.app [.list []],(le_app.trans l1).trans le_app,?_⟩
 rcases hc with⟨h,rfl,hz⟩|⟨h,rfl,rfl⟩
 ·have z1: ∀H,aI .lt (.int ((bg:Int) - q)) (.int 0) H=some true:=fun _=>congrArg some (decide_eq_true (Ab h))
  rw[Int.sub_self]at e1
  apply aN (F:=iu) (loc:=[.ref 48,.int (num c.R bg),.bytes (sl σ bg k),.int (num c.R q),.unb,.unb]) rfl rfl rfl rfl;unfold iu;dsimp only
  apply ae;apply bu;apply ax;exact ab rfl;exact fK;apply aa;exact ab rfl;exact af;exact hf;apply ae;apply aA;apply ax;exact ab rfl;exact cS;apply aa;exact ab rfl;apply aa;exact ab rfl;exact af;exact fy hR h1 h2;exact ik;apply ae
  apply aK
  apply au;exact ab rfl;exact aq;exact z1 _;apply ae;apply aA;apply eV;exact ab rfl;apply aF;exact aq;exact ab rfl;exact rfl;exact aq;exact xj hk h hz;exact nD;apply ae;apply aA;exact aq;exact ik;exact ar;apply ae;apply aA;apply ax;exact ab rfl;exact jW;apply aa;exact ab rfl;apply aa;exact ab rfl;apply aa;exact ab rfl;exact af;exact e1;exact t6;apply ae;apply aC;apply au;exact ab rfl;apply bl;exact af;exact rfl;exact gO (aJ hy) aH;exact ar;exact ar
 ·have z1: ∀H,aI .lt (.int ((q:Int) - nn)) (.int 0) H=some false:=fun _=>congrArg some (decide_eq_false (uT h))
  rw[Nat.add_sub_cancel_left]at e1
  apply aN (F:=iu) (loc:=[.ref 48,.int (num c.R q),.bytes (sl σ q k),.int (num c.R nn),.unb,.unb]) rfl rfl rfl rfl;unfold iu;dsimp only
  apply ae;apply bu;apply ax;exact ab rfl;exact fK;apply aa;exact ab rfl;exact af;exact hf;apply ae;apply aA;apply ax;exact ab rfl;exact cS;apply aa;exact ab rfl;apply aa;exact ab rfl;exact af;exact fy hR h1 h2;exact ik;apply ae;apply aC;apply au;exact ab rfl;exact aq;exact z1 _;exact ar;apply ae;apply aA;apply ax;exact ab rfl;exact jW;apply aa;exact ab rfl;apply aa;exact ab rfl;apply aa;exact ab rfl;exact af;exact e1;exact t6;apply ae;apply aC;apply au;exact ab rfl;apply bl;exact af;exact rfl;exact gO (aJ hy) aH;exact ar;exact ar
theorem AI{l l2 l3:List (Nat×Nat)}(hR:256≤c.R)(hk:k≤1000)(hf:mL n b s c st a wh rc B (nn:Int) F)(h1:(bg:Int) - nn<128)(h2:(nn:Int) - bg<128)(hc:pR bg k nn q z)(hm:fN n b s c st a wh rc B σ (nn:Int) (F.app [.list []]) q z l)
  (hl:(fV (nn:Int) σ l).isEmpty=false)(hp0:F.at rc.pr=some (.list P))(hg:AF n b s c st a wh rc B σ (nn:Int) P l l2)(hj:AG (n+2) b s c st a wh rc B σ (nn:Int) l2 l3):
  dk fun F' pr=>bx (F.Le F') (F'.at pr=some (.list (dU c.R σ l3))) (ao fns (n+5) b 1017 [.ref 48,.int (num c.R bg),.bytes (sl σ bg k),.int (num c.R nn)] (hp s c st a wh rc B F)=some (.none,hp s c st a wh {rc with pr:=pr} B F')):=by
 obtain⟨F1,y,l1,y0,hy,e1⟩:=hm
 obtain⟨F2,y2,l2',hy2,e2⟩:=hg (F1.app [.list []]) y (aJ hy) (aJ (l1 _ _ (aJ hp0)))
 obtain⟨F3,y3,l3',hy3,e3⟩:=hj F2 y2 hy2
 unfold mL at hf
 have zz:aI .ne (.ref y) (.ref F1.next) (hp s c st a wh rc B (F1.app [.list []]))=some true:=(gO (aJ hy) aH).trans (by rw[hl];rfl)
 refine⟨F3,y3,((((le_app (L:=[.list []])).trans l1).trans (le_app (L:=[.list []]))).trans l2').trans l3',hy3,?_⟩
 rcases hc with⟨h,rfl,hz⟩|⟨h,rfl,rfl⟩
 ·have z1: ∀H,aI .lt (.int ((bg:Int) - q)) (.int 0) H=some true:=fun _=>congrArg some (decide_eq_true (Ab h))
  rw[Int.sub_self]at e1
  apply aN (F:=iu) (loc:=[.ref 48,.int (num c.R bg),.bytes (sl σ bg k),.int (num c.R q),.unb,.unb]) rfl rfl rfl rfl;unfold iu;dsimp only
  apply ae;apply bu;apply ax;exact ab rfl;exact fK;apply aa;exact ab rfl;exact af;exact hf;apply ae;apply aA;apply ax;exact ab rfl;exact cS;apply aa;exact ab rfl;apply aa;exact ab rfl;exact af;exact fy hR h1 h2;exact ik;apply ae
  apply aK
  apply au;exact ab rfl;exact aq;exact z1 _;apply ae;apply aA;apply eV;exact ab rfl;apply aF;exact aq;exact ab rfl;exact rfl;exact aq;exact xj hk h hz;exact nD;apply ae;apply aA;exact aq;exact ik;exact ar;apply ae;apply aA;apply ax;exact ab rfl;exact jW;apply aa;exact ab rfl;apply aa;exact ab rfl;apply aa;exact ab rfl;exact af;exact e1;exact t6;apply ae;apply aK;apply au;exact ab rfl;apply bl;exact af;exact rfl;exact zz;apply ae;apply aA;apply ax;exact ab rfl;exact rT;apply aa;apply ax;exact ab rfl;exact rV;apply aa;exact ab rfl;apply aa;exact ab rfl;exact af;exact e2;apply aa;exact ab rfl;exact af;exact e3;apply bw;exact ab rfl;exact nI;exact ar;exact ar
 ·have z1: ∀H,aI .lt (.int ((q:Int) - nn)) (.int 0) H=some false:=fun _=>congrArg some (decide_eq_false (uT h))
  rw[Nat.add_sub_cancel_left]at e1
  apply aN (F:=iu) (loc:=[.ref 48,.int (num c.R q),.bytes (sl σ q k),.int (num c.R nn),.unb,.unb]) rfl rfl rfl rfl;unfold iu;dsimp only
  apply ae;apply bu;apply ax;exact ab rfl;exact fK;apply aa;exact ab rfl;exact af;exact hf;apply ae;apply aA;apply ax;exact ab rfl;exact cS;apply aa;exact ab rfl;apply aa;exact ab rfl;exact af;exact fy hR h1 h2;exact ik;apply ae
  apply aC
  apply au;exact ab rfl;exact aq;exact z1 _;exact ar;apply ae;apply aA;apply ax;exact ab rfl;exact jW;apply aa;exact ab rfl;apply aa;exact ab rfl;apply aa;exact ab rfl;exact af;exact e1;exact t6;apply ae;apply aK;apply au;exact ab rfl;apply bl;exact af;exact rfl;exact zz;apply ae;apply aA;apply ax;exact ab rfl;exact rT;apply aa;apply ax;exact ab rfl;exact rV;apply aa;exact ab rfl;apply aa;exact ab rfl;exact af;exact e2;apply aa;exact ab rfl;exact af;exact e3;apply bw;exact ab rfl;exact nI;exact ar;exact ar
end
section
variable{n:Nat}{b fl:Bool}{s:MO}{c:fw}{st:Nat}{a:aU}{wh:eg}{rc:eA}{B:ee}{F:bD}{H:HH}{σ:Nat→UInt8}{p e q z nn bg k:Nat}{P:jP}
theorem lz(h:q<z):iU q z=[(q,z)]:=by unfold iU;rw[decide_eq_true h]
theorem jm(h:z≤q):iU q z=[]:=by unfold iU;rw[decide_eq_false (Nat.not_lt.mpr h)]
noncomputable def sg(P:jP)(q z:Nat)(l:List (Nat×Nat)):Prop:=match P with
 |none=>(q<z∧l=[(q,z)])∨(z≤q∧l=[])
 |some (p,e)=>(z≤q∧l=[(p,e)])∨(q<z∧z<p∧l=[(q,z),(p,e)])∨(q<z∧p≤z∧dk fun p' e'=>xW (l=[(p',e')]) (p'≤p) (p'≤q) ((p'=p∨p'=q)) (e≤e') (z≤e') ((e'=e∨e'=z)))
noncomputable def fO(n:Nat)(b:Bool)(s:MO)(c:fw)(st:Nat)(a:aU)(wh:eg)(rc:eA)(B:ee)(σ:Nat→UInt8)(F:bD)(bg k nn:Nat)(l:List (Nat×Nat)):Prop:=
 dk fun F' pr=>bx (F.Le F') (F'.at pr=some (.list (dU c.R σ l))) (ao fns (n+5) b 1017 [.ref 48,.int (num c.R bg),.bytes (sl σ bg k),.int (num c.R nn)] (hp s c st a wh rc B F)=some (.none,hp s c st a wh {rc with pr:=pr} B F'))
theorem xk(hR:256≤c.R)(hk:k≤1000)(h1:(bg:Int) - nn<128)(h2:(nn:Int) - bg<128)(hc:pR bg k nn q z)(hqz:q≤z)(hz:z≤1000)(hp0:F.at rc.pr=some (.list [])):
  ∃l,sg none q z l∧fO n b s c st a wh rc B σ F bg k nn l:=by
 have hf:mL n b s c st a wh rc B (nn:Int) F:=w7 hp0
 have hm:=zJ (n:=n) (b:=b) (s:=s) (c:=c) (st:=st) (a:=a) (wh:=wh) (B:=B) (σ:=σ) (N:=(nn:Int)) hqz hz (aJ (L:=[.list []]) hp0)
 rcases Nat.lt_or_eq_of_le hqz with h|h
 ·rw[lz h]at hm
  obtain⟨F',pr,r1,r2,r3⟩:=AI (l2:=[(q,z)]) (l3:=[(q,z)]) hR hk hf h1 h2 hc hm rfl hp0 (fun F x hx hp=>zH hx hp) (fun F x hx=>zF hR hx ⟨hqz,hz⟩)
  exact⟨_,.inl ⟨h,rfl⟩,F',pr,r1,r2,r3⟩
 ·have h':z≤q:=Nat.le_of_eq h.symm
  rw[jm h']at hm
  obtain⟨F',r1,r3⟩:=AH hR hk hf h1 h2 hc hm
  exact⟨[],.inr ⟨h',rfl⟩,F',rc.pr,r1,r1 _ _ hp0,r3⟩
theorem xm(hR:256≤c.R)(hk:k≤1000)(h1:(bg:Int) - nn<128)(h2:(nn:Int) - bg<128)(hc:pR bg k nn q z)(hqz:q≤z)(hz:z≤1000)(hp0:F.at rc.pr=some (.list [cj c.R σ p e]))
  (hpn:nn<p)(hpe:p<e)(he:e≤1000)(h3:(p:Int) - nn<128)(hqe:q≤e): ∃l,sg (some (p,e)) q z l∧fO n b s c st a wh rc B σ F bg k nn l:=by
 have h4:(nn:Int) - p<128:=uU (Nat.le_of_lt hpn)
 have hpe':=Nat.le_of_lt hpe
 have hf:mL n b s c st a wh rc B (nn:Int) F:=qZ hR hp0 (Int.ofNat_le.mpr (Nat.le_of_lt hpn)) h3
 have hp1:=aJ (L:=[.list []]) hp0
 have same:fN n b s c st a wh rc B σ (nn:Int) (F.app [.list []]) q z []→fO n b s c st a wh rc B σ F bg k nn [(p,e)]:=fun hm=>by
  obtain⟨F',r1,r3⟩:=AH hR hk hf h1 h2 hc hm
  exact⟨F',rc.pr,r1,r1 _ _ hp0,r3⟩
 have new: ∀{f g:Nat}{r l2 l3:List (Nat×Nat)},fN n b s c st a wh rc B σ (nn:Int) (F.app [.list []]) q z ((f,g)::r)→AF n b s c st a wh rc B σ (nn:Int) [cj c.R σ p e] ((f,g)::r) l2→AG (n+2) b s c st a wh rc B σ (nn:Int) l2 l3→
   fO n b s c st a wh rc B σ F bg k nn l3:=fun hm hg hj=>AI hR hk hf h1 h2 hc hm rfl hp0 hg hj
 rcases Nat.lt_or_eq_of_le hqz with h|h
 ·rcases Nat.lt_or_eq_of_le hqe with hq|hq
  ·rcases Nat.lt_or_ge p z with hp|hp
   ·rcases Nat.lt_or_ge q p with hqp|hqp
    ·have hm:=xi (n:=n) (b:=b) (s:=s) (st:=st) (a:=a) (wh:=wh) (B:=B) hR h3 h4 hpe' he hqz hz hp1 hq hp hqp
     rcases Nat.lt_or_ge e z with hez|hez
     ·rw[lz hez]at hm
      exact⟨_,.inr (.inr ⟨h,Nat.le_of_lt hp,q,z,rfl,Nat.le_of_lt hqp,Nat.le_refl _,.inr rfl,Nat.le_of_lt hez,Nat.le_refl _,.inr rfl⟩),
       new hm (fun F x hx hp=>zI hR hx hp h3 h4 hqp hpe') (fun F x hx=>zG hR hx ⟨Nat.le_of_lt hqp,Nat.le_trans hpe' he⟩ ⟨hpe',he⟩ ⟨Nat.le_of_lt hez,hz⟩)⟩
     ·rw[jm hez]at hm
      exact⟨_,.inr (.inr ⟨h,Nat.le_of_lt hp,q,e,rfl,Nat.le_of_lt hqp,Nat.le_refl _,.inr rfl,Nat.le_refl _,hez,.inl rfl⟩),
       new hm (fun F x hx hp=>nN hR hx hp h3 h4 hqp) (fun F x hx=>iS hR hx ⟨Nat.le_of_lt hqp,Nat.le_trans hpe' he⟩ ⟨hpe',he⟩)⟩
    ·have hm:=pQ (n:=n) (b:=b) (s:=s) (st:=st) (a:=a) (wh:=wh) (B:=B) hR h3 h4 hpe' he hqz hz hp1 hq hp hqp
     rcases Nat.lt_or_ge e z with hez|hez
     ·rw[lz hez]at hm
      exact⟨_,.inr (.inr ⟨h,Nat.le_of_lt hp,p,z,rfl,Nat.le_refl _,hqp,.inl rfl,Nat.le_of_lt hez,Nat.le_refl _,.inr rfl⟩),
       new hm (fun F x hx hp=>sa hR hx hp h3 h4 hpe') (fun F x hx=>iS hR hx ⟨hpe',he⟩ ⟨Nat.le_of_lt hez,hz⟩)⟩
     ·rw[jm hez]at hm
      exact⟨_,.inr (.inr ⟨h,Nat.le_of_lt hp,p,e,rfl,Nat.le_refl _,hqp,.inl rfl,Nat.le_refl _,hez,.inl rfl⟩),same hm⟩
   ·have hm:=sf (n:=n) (b:=b) (s:=s) (st:=st) (a:=a) (wh:=wh) (B:=B) hR h3 h4 hpe' he hqz hz hp1 hq hp
    rw[lz h]at hm
    have hqp:=Nat.lt_of_lt_of_le h hp
    rcases Nat.lt_or_eq_of_le hp with hzp|hzp
    ·exact⟨_,.inr (.inl ⟨h,hzp,rfl⟩),new hm (fun F x hx hp=>nN hR hx hp h3 h4 hqp) (fun F x hx=>xg hR hx ⟨hqz,hz⟩ ⟨hpe',he⟩ (Nat.ne_of_lt hzp))⟩
    ·subst hzp
     exact⟨_,.inr (.inr ⟨h,Nat.le_refl _,q,e,rfl,Nat.le_of_lt hqp,Nat.le_refl _,.inr rfl,Nat.le_refl _,hpe',.inl rfl⟩),
      new hm (fun F x hx hp=>nN hR hx hp h3 h4 hqp) (fun F x hx=>iS hR hx ⟨hqz,hz⟩ ⟨hpe',he⟩)⟩
  ·have hm:=se (n:=n) (b:=b) (s:=s) (st:=st) (a:=a) (wh:=wh) (B:=B) hR h3 h4 hpe' he hqz hz hp1 (Nat.le_of_eq hq.symm)
   rw[lz h]at hm
   subst hq
   exact⟨_,.inr (.inr ⟨h,Nat.le_trans hpe' hqz,p,z,rfl,Nat.le_refl _,hpe',.inl rfl,hqz,Nat.le_refl _,.inr rfl⟩),
    new hm (fun F x hx hp=>sa hR hx hp h3 h4 hpe') (fun F x hx=>iS hR hx ⟨hpe',he⟩ ⟨hqz,hz⟩)⟩
 ·have hzq:z≤q:=Nat.le_of_eq h.symm
  refine⟨_,.inl ⟨hzq,rfl⟩,same ?_⟩
  rcases Nat.lt_or_eq_of_le hqe with hq|hq
  ·rcases Nat.lt_or_ge p z with hp|hp
   ·have hm:=pQ (n:=n) (b:=b) (s:=s) (st:=st) (a:=a) (wh:=wh) (B:=B) hR h3 h4 hpe' he hqz hz hp1 hq hp (Nat.le_of_lt (Nat.lt_of_lt_of_le hp hzq))
    rw[jm (Nat.le_trans hzq hqe)]at hm
    exact hm
   ·have hm:=sf (n:=n) (b:=b) (s:=s) (st:=st) (a:=a) (wh:=wh) (B:=B) hR h3 h4 hpe' he hqz hz hp1 hq hp
    rw[jm hzq]at hm
    exact hm
  ·have hm:=se (n:=n) (b:=b) (s:=s) (st:=st) (a:=a) (wh:=wh) (B:=B) hR h3 h4 hpe' he hqz hz hp1 (Nat.le_of_eq hq.symm)
   rw[jm hzq]at hm
   exact hm
end
section
variable{n:Nat}{b fl:Bool}{s:MO}{c:fw}{st:Nat}{a:aU}{wh:eg}{rc:eA}{B:ee}{F:bD}{H:HH}{σ:Nat→UInt8}{p e q z nn bg k W kk TE:Nat}{P:jP}{ua:Option Int}{ry pr:Nat}
theorem ne_nil{l:List UInt8}:aI .ne (.bytes l) (.bytes []) H=some (!decide (l=[])):=rfl
theorem pS(h:0<k):decide (sl σ p k=[])=false:=by
 rw[w6]
 exact decide_eq_false (Nat.ne_of_gt h)
theorem CP(hR:256≤c.R)(h1:(W:Int) - nn<128)(h2:(nn:Int) - W<128)(hp0:F.at rc.pr=some (.list [])):
  ao fns (n+4) b 1066 [.ref 48,.int (num c.R W),.int (num c.R nn)] (hp s c st a wh rc B F)=some (.none,hp s c st a wh {rc with pr:=F.next} B (F.app [.list []])):=by
 apply aN (F:=j8) (loc:=[.ref 48,.int (num c.R W),.int (num c.R nn),.unb,.unb,.unb,.unb,.unb]) rfl rfl rfl rfl;unfold j8;dsimp only
 apply ae;apply aA;apply ax;exact ab rfl;exact cS;apply aa;exact ab rfl;apply aa;exact ab rfl;exact af;exact fy hR h1 h2;exact ph;apply ae;apply aA;apply bl;exact af;exact rfl;exact ik;apply ae;apply eE;apply ah;exact ab rfl;exact cY;exact cg (gw (aJ hp0));apply ae;apply aA;exact ab rfl;apply bw;exact ab rfl;exact nI;exact ar
noncomputable def xn:fY:=match j8.body with
 | .cons _ (.cons _ (.cons (.forr _ _ _ q) _))=>q
 |_=> .nil
theorem CQ{y:Nat}(hR:256≤c.R)(h3:(p:Int) - nn<128)(h4:(nn:Int) - p<128)(hpe:p<e)(heW:e≤W)(hW:W≤1000)(hy:F.at y=some (.list [])):
  bQ (ao fns (n+3)) b xn [.ref 48,.int (num c.R W),.int (num c.R nn),.int ((W:Int) - nn),.ref y,.int (num c.R p),.bytes (sl σ p (e - p)),.unb] (hp s c st a wh rc B F)=
   some (.next,[.ref 48,.int (num c.R W),.int (num c.R nn),.int ((W:Int) - nn),.ref y,.int (num c.R p),.bytes (sl σ p (e - p)),.bytes (sl σ p (e - p))],hp s c st a wh rc B (F.set y (.list [cj c.R σ p e]))):=by
 have z1: ∀H,cu b .max [.int 0,.int ((W:Int) - nn - (p - nn))] H=some (.int ((W - p:Nat):Int),H):=fun H=>by
  show some (MV.int (if(0:Int)<(W:Int) - nn - (p - nn)then(W:Int) - nn - (p - nn)else 0),H)=_
  rw[if_pos (Bt (Nat.lt_of_lt_of_le hpe heW)),show(W:Int) - nn - (p - nn)=((W - p:Nat):Int)from qh (Nat.le_of_lt (Nat.lt_of_lt_of_le hpe heW))]
 have z2: ∀H,dX (.bytes (sl σ p (e - p))) .none (.int ((W - p:Nat):Int)) H=some (.bytes (sl σ p (e - p)),H):=fun H=>by
  rw[qX (bM (Nat.le_trans (Nat.sub_le e p) (Nat.le_trans heW (Nat.le_trans hW (by decide))))),List.take_of_length_le (by rw[bq];exact Nat.sub_le_sub_right heW p)]
 have z3: ∀H,aI .ne (.bytes (sl σ p (e - p))) (.bytes []) H=some true:=fun H=>by
  rw[ne_nil,pS (Nat.sub_pos_of_lt hpe)]
  rfl
 unfold cj
 unfold xn j8;dsimp only
 apply ae;apply aA;apply eV;exact ab rfl;exact aq;apply aP;apply aa;exact aq;apply aa;apply aF;exact ab rfl;apply ax;exact ab rfl;exact cS;apply aa;exact ab rfl;apply aa;exact ab rfl;exact af;exact fy hR h3 h4;exact rfl;exact af;exact z1 _;exact z2 _;exact Df;apply ae;apply aK;apply au;exact ab rfl;exact aq;exact z3 _;apply ae;apply bu;apply bP (m:=0);exact ab rfl;exact eN hy rfl;apply aa;apply bH;apply aa;exact ab rfl;apply aa;exact ab rfl;exact af;exact rfl;exact af;exact dR hy rfl;exact ar;exact ar
theorem CR(hR:256≤c.R)(h1:(W:Int) - nn<128)(h2:(nn:Int) - W<128)(h3:(p:Int) - nn<128)(h4:(nn:Int) - p<128)(hpe:p<e)(heW:e≤W)(hW:W≤1000)(hp0:F.at rc.pr=some (.list [cj c.R σ p e])):
  dk fun F' y=>bx (F.Le F') (F'.at y=some (.list [cj c.R σ p e])) (ao fns (n+4) b 1066 [.ref 48,.int (num c.R W),.int (num c.R nn)] (hp s c st a wh rc B F)=some (.none,hp s c st a wh {rc with pr:=y} B F')):=by
 have it:=CQ (n:=n) (b:=b) (s:=s) (st:=st) (a:=a) (wh:=wh) (rc:=rc) (B:=B) (F:=F.app [.list []]) (σ:=σ) hR h3 h4 hpe heW hW aH
 have lp:=bR (bd:=eI [5,6] false) (body:=fun l h=>bQ (ao fns (n+3)) b xn l h) (k:=63) (loc:=[.ref 48,.int (num c.R W),.int (num c.R nn),.int ((W:Int) - nn),.ref F.next,.unb,.unb,.unb]) (item_at (j:=0) (aJ hp0)) rfl it (cg (item_at ((bf aH (old_ne hp0)).trans (aJ hp0))))
 have n0:=aH (F:=F) (o:= .list []) (L:=[])
 refine⟨(F.app [.list []]).set F.next (.list [cj c.R σ p e]),F.next,le_app.put (dP (Nat.le_refl _)) n0,aW n0,?_⟩
 apply aN (F:=j8) (loc:=[.ref 48,.int (num c.R W),.int (num c.R nn),.unb,.unb,.unb,.unb,.unb]) rfl rfl rfl rfl;unfold j8;dsimp only
 apply ae;apply aA;apply ax;exact ab rfl;exact cS;apply aa;exact ab rfl;apply aa;exact ab rfl;exact af;exact fy hR h1 h2;exact ph;apply ae;apply aA;apply bl;exact af;exact rfl;exact ik;apply ae;apply eE;apply ah;exact ab rfl;exact cY;exact lp;apply ae;apply aA;exact ab rfl;apply bw;exact ab rfl;exact nI;exact ar
theorem ra(hR:256≤c.R)(h1:(W:Int) - nn<128)(h2:(nn:Int) - W<128)(hW:W≤1000)(hp0:F.at rc.pr=some (.list (fx c.R σ P)))(hP: ∀p e,P=some (p,e)→nn<p∧p<e∧e≤W):
  dk fun F' y=>bx (F.Le F') (F'.at y=some (.list (fx c.R σ P))) (ao fns (n+4) b 1066 [.ref 48,.int (num c.R W),.int (num c.R nn)] (hp s c st a wh rc B F)=some (.none,hp s c st a wh {rc with pr:=y} B F')):=by
 cases P with
 |none=>exact⟨_,_,le_app,aH,CP hR h1 h2 hp0⟩
 |some pe=>
  obtain⟨p,e⟩:=pe
  obtain⟨k1,k2,k3⟩:=hP p e rfl
  exact CR hR h1 h2 (GV (Nat.le_of_lt (Nat.lt_of_lt_of_le k2 k3)) h1) (uU (Nat.le_of_lt k1)) k2 k3 hW hp0
theorem Fu(hR:256≤c.R)(h1:(W:Int) - nn<128)(h2:nn≤W)(hW:W≤1000)(hp0:F.at pr=some (.list (fx c.R σ P)))(hP: ∀p e,P=some (p,e)→nn<p∧p<e∧e≤W){fa:Option Int}(hfa:fa=none∨fa=some (W:Int)){te:Int}{hf:Bool}:
  dk fun F' y=>bx (F.Le F') (F'.at y=some (.list (fx c.R σ P))) (ao fns (n+5) b 1137 [.ref 45,.int (num c.R W)] (hp s c st a wh ⟨nn,te,fa,hf,ua,ry,pr⟩ B F)=some (.none,hp s c st a wh ⟨nn,te,some (W:Int),hf,ua,ry,y⟩ B F')):=by
 rcases hfa with rfl|rfl
 ·obtain⟨F',y,l1,hy,e1⟩:=ra (n:=n) (b:=b) (s:=s) (st:=st) (a:=a) (wh:=wh) (rc:=⟨nn,te,some (W:Int),hf,ua,ry,pr⟩) (B:=B) hR h1 (uU h2) hW hp0 hP
  refine⟨F',y,l1,hy,?_⟩
  apply aN (F:=n9) (loc:=[.ref 45,.int (num c.R W)]) rfl rfl rfl rfl;unfold n9;dsimp only
  apply ae;apply aK;apply aZ;apply au;apply ah;exact ab rfl;exact fJ;exact aq;exact rfl;apply bI;apply aB;apply aa;exact ab rfl;apply aa;apply ah;exact ab rfl;exact cB;apply aa;apply ah;exact ab rfl;exact bL;exact af;exact(jK hR (Int.ofNat_le.mpr h2) h1);apply ae;apply aA;exact ab rfl;apply bw;exact ab rfl;exact Cw;apply ae;apply bu;apply ax;apply ah;exact ab rfl;exact lr;exact zo;apply aa;exact ab rfl;apply aa;apply ah;exact ab rfl;exact cB;exact af;exact e1;exact ar;exact ar
 ·refine⟨F,pr,.refl,hp0,?_⟩
  apply aN (F:=n9) (loc:=[.ref 45,.int (num c.R W)]) rfl rfl rfl rfl;unfold n9;dsimp only
  apply ae;apply aC;apply bK;apply au;apply ah;exact ab rfl;exact fJ;exact aq;exact rfl;exact ar;exact ar
noncomputable def pT(bg k te kk:Nat):Prop:=(te≤bg∧kk=0)∨(bg<te∧((k≤te - bg∧kk=k)∨(te - bg≤k∧kk=te - bg)))
theorem Fv(hR:256≤c.R)(hk:k≤1000)(hte:rc.te=(TE:Int))(h1:(bg:Int) - TE<128)(h2:(TE:Int) - bg<128)(hi:pT bg k TE kk):
  ao fns (n+3) b 1130 [.ref 45,.int (num c.R bg),.bytes (sl σ bg k)] (hp s c st a wh rc B F)=some (.bytes (sl σ bg kk),hp s c st a wh rc B F):=by
 obtain⟨nx,te,fa,hf,ua,ry,pr⟩:=rc
 subst hte
 rcases hi with⟨h,rfl⟩|⟨h,hi⟩
 ·cases k with
  |zero=>
   apply aw (F:=kc) (loc:=[.ref 45,.int (num c.R bg),.bytes [],.unb]) rfl rfl rfl rfl;unfold kc;dsimp only
   apply bE;apply bI;apply aB;apply aa;exact ab rfl;apply aa;apply ah;exact ab rfl;exact fg;apply aa;apply ah;exact ab rfl;exact bL;exact af;exact(jK hR (Int.ofNat_le.mpr h) h1);apply aM;apply dM;apply au;exact ab rfl;exact aq;exact rfl;exact ab rfl
  |succ k=>
   have z: ∀H,aI .ne (.bytes (sl σ bg (k+1))) (.bytes []) H=some true:=fun H=>by rw[ne_nil,pS (Nat.succ_pos k)];rfl
   apply aw (F:=kc) (loc:=[.ref 45,.int (num c.R bg),.bytes (sl σ bg (k+1)),.unb]) rfl rfl rfl rfl;unfold kc;dsimp only
   apply bE;apply bI;apply aB;apply aa;exact ab rfl;apply aa;apply ah;exact ab rfl;exact fg;apply aa;apply ah;exact ab rfl;exact bL;exact af;exact(jK hR (Int.ofNat_le.mpr h) h1);apply aM;apply dK;apply au;exact ab rfl;exact aq;exact z _;exact aq
 ·have z: ∀H,dX (.bytes (sl σ bg k)) .none (.int ((TE:Int) - bg)) H=some (.bytes (sl σ bg kk),H):=fun H=>by
   rw[show(TE:Int) - bg=((TE - bg:Nat):Int)from Eq.symm (Int.ofNat_sub (Nat.le_of_lt h)),qX (bM (Nat.le_trans hk (by decide)))]
   rcases hi with⟨h',e⟩|⟨h',e⟩
   ·rw[List.take_of_length_le (by rw[bq];exact h'),e]
   ·rw[gE h',e]
  have y: ∀H,cu b .bytes [.bytes (sl σ bg kk)] H=some (.bytes (sl σ bg kk),H):=fun H=>rfl
  apply aw (F:=kc) (loc:=[.ref 45,.int (num c.R bg),.bytes (sl σ bg k),.unb]) rfl rfl rfl rfl;unfold kc;dsimp only
  apply ae;apply aC;apply df;apply aB;apply aa;exact ab rfl;apply aa;apply ah;exact ab rfl;exact fg;apply aa;apply ah;exact ab rfl;exact bL;exact af;exact(mJ hR (Int.ofNat_lt.mpr h) h2);exact ar;apply ae;apply aA;apply aB;apply aa;exact ab rfl;apply aa;apply ah;exact ab rfl;exact fg;apply aa;apply ah;exact ab rfl;exact bL;exact af;exact(g9 hR (Int.ofNat_le.mpr (Nat.le_of_lt h)) h2);exact ph;apply aM;apply aP;apply aa;apply eV;exact ab rfl;exact aq;exact ab rfl;exact z _;exact af;exact y _
theorem Fw(hR:256≤c.R)(hW:W≤1000)(hfa:rc.fa=some (W:Int))(h2:(W:Int) - bg<128)(hi:bg+k≤W):
  ao fns (n+3) b 1144 [.ref 45,.int (num c.R bg),.bytes (sl σ bg k)] (hp s c st a wh rc B F)=some (.bytes (sl σ bg k),hp s c st a wh rc B F):=by
 obtain⟨nx,te,fa,hf,ua,ry,pr⟩:=rc
 subst hfa
 by_cases h:bg<W
 ·have z: ∀H,dX (.bytes (sl σ bg k)) .none (.int ((W:Int) - bg)) H=some (.bytes (sl σ bg k),H):=fun H=>by
   rw[show(W:Int) - bg=((W - bg:Nat):Int)from Eq.symm (Int.ofNat_sub (Nat.le_of_lt h)),qX (bM (Nat.le_trans (Nat.le_add_left k bg) (Nat.le_trans hi (Nat.le_trans hW (by decide))))),List.take_of_length_le (by rw[bq];exact Nat.le_sub_of_add_le' hi)]
  apply aw (F:=oa) (loc:=[.ref 45,.int (num c.R bg),.bytes (sl σ bg k)]) rfl rfl rfl rfl;unfold oa;dsimp only
  apply ae;apply aC;apply df;apply aB;apply aa;exact ab rfl;apply aa;apply ah;exact ab rfl;exact fJ;apply aa;apply ah;exact ab rfl;exact bL;exact af;exact(mJ hR (Int.ofNat_lt.mpr h) h2);exact ar;apply aM;apply eV;exact ab rfl;exact aq;apply aB;apply aa;exact ab rfl;apply aa;apply ah;exact ab rfl;exact fJ;apply aa;apply ah;exact ab rfl;exact bL;exact af;exact(g9 hR (Int.ofNat_le.mpr (Nat.le_of_lt h)) h2);exact z _
 ·obtain rfl:k=0:=By hi h
  apply aw (F:=oa) (loc:=[.ref 45,.int (num c.R bg),.bytes (sl σ bg 0)]) rfl rfl rfl rfl;unfold oa;dsimp only
  apply bE;apply bI;apply aB;apply aa;exact ab rfl;apply aa;apply ah;exact ab rfl;exact fJ;apply aa;apply ah;exact ab rfl;exact bL;exact af;exact(jK hR (Int.ofNat_le.mpr (Nat.not_lt.mp h)) (uU (Nat.le_trans (Nat.le_add_right bg 0) hi)));apply aM;exact aq
theorem xo{i:Nat}{bs fr:List UInt8}(h:F.at i=some (.barr bs))(hl:Nat.ble (bs.length+fr.length) 1000000=true):dm true 5 i [.bytes fr] (hp s c st a wh rc B F)=some (.none,hp s c st a wh rc B (F.set i (.barr (bs++fr)))):=by
 show(match(hp s c st a wh rc B F)[i]? with|some c=>_|none=>none)=_
 rw[dg h]
 show(if(true&&Nat.ble (bs.length+fr.length) 1000000)=true then some (MV.none,(hp s c st a wh rc B F).set i (.barr (bs++fr)))else none)=_
 rw[hl,lj h]
 rfl
theorem sh{i:Nat}{bs:List UInt8}(h:F.at i=some (.barr bs)):tK (hp s c st a wh rc B F) i 3 5:=⟨_,dg h,rfl⟩
theorem zK{bs fr:List UInt8}{nx te:Int}{fa:Option Int}{F1:bD}(hR:256≤c.R)
  (ht:ao fns (n+5) true 1052 [.ref 48,.int (num c.R nx)] (hp s c st a wh ⟨nx,te,fa,false,ua,ry,pr⟩ B F)=some (.bytes fr,hp s c st a wh ⟨nx,te,fa,false,ua,ry,pr⟩ B F1))
  (hy:F1.at ry=some (.barr bs))(hl:Nat.ble (bs.length+fr.length) 1000000=true)(hl':Nat.ble fr.length 1000000=true)
  (hf: ∀w,fa=some w→w≠nx+fr.length∧w - (nx+fr.length)<128∧nx+fr.length - w<128):
  ao fns (n+6) true 1151 [.ref 45] (hp s c st a wh ⟨nx,te,fa,false,ua,ry,pr⟩ B F)=some (.int fr.length,hp s c st a wh ⟨nx+fr.length,te,fa,false,ua,ry,pr⟩ B (F1.set ry (.barr (bs++fr)))):=by
 have z: ∀H,aI .eq (tM c.R fa) (.int (num c.R (nx+fr.length))) H=some false:=fun H=>by
  cases fa with
  |none=>rfl
  |some w=>
   obtain⟨k1,k2,k3⟩:=hf w rfl
   exact congrArg some (decide_eq_false (by rw[nG hR k2 k3];exact k1))
 apply aw (F:=oe) (loc:=[.ref 45,.unb]) rfl rfl rfl rfl;unfold oe;dsimp only
 apply ae;apply aA;exact aq;exact tL;apply ae
 apply aK
 apply bI;apply ah;exact ab rfl;exact dQ;apply ae;apply aA;apply ax;apply ah;exact ab rfl;exact lr;exact rU;apply aa;apply ah;exact ab rfl;exact cB;exact af;exact ht;exact tL;exact ar;apply ae;apply bu;apply bP (m:=3);apply ah;exact ab rfl;exact gr;exact sh hy;apply aa;exact ab rfl;exact af;exact xo hy hl;apply ae;apply aA;apply aB;apply aa;apply ah;exact ab rfl;exact cB;apply aa;apply aP;apply aa;exact ab rfl;exact af;exact bc hl';apply aa;apply ah;exact ab rfl;exact bL;exact af;exact pq hR;apply bw;exact ab rfl;exact qU;apply ae;apply aC;apply bK;apply au;apply ah;exact ab rfl;exact fJ;apply ah;exact ab rfl;exact cB;exact z _;exact ar;apply aM;apply aP;apply aa;exact ab rfl;exact af;exact bc hl'
theorem zL{bs fr:List UInt8}{nx te:Int}{F1:bD}(hR:256≤c.R)
  (ht:ao fns (n+5) true 1052 [.ref 48,.int (num c.R nx)] (hp s c st a wh ⟨nx,te,some (nx+fr.length),false,ua,ry,pr⟩ B F)=some (.bytes fr,hp s c st a wh ⟨nx,te,some (nx+fr.length),false,ua,ry,pr⟩ B F1))
  (hy:F1.at ry=some (.barr bs))(hl:Nat.ble (bs.length+fr.length) 1000000=true)(hl':Nat.ble fr.length 1000000=true):
  ao fns (n+6) true 1151 [.ref 45] (hp s c st a wh ⟨nx,te,some (nx+fr.length),false,ua,ry,pr⟩ B F)=some (.int fr.length,hp s c st a wh ⟨nx+fr.length+1,te,some (nx+fr.length),true,ua,ry,pr⟩ B (F1.set ry (.barr (bs++fr)))):=by
 have z: ∀H,aI .eq (tM c.R (some (nx+fr.length))) (.int (num c.R (nx+fr.length))) H=some true:=fun H=>congrArg some (decide_eq_true rfl)
 apply aw (F:=oe) (loc:=[.ref 45,.unb]) rfl rfl rfl rfl;unfold oe;dsimp only
 apply ae;apply aA;exact aq;exact tL;apply ae
 apply aK
 apply bI;apply ah;exact ab rfl;exact dQ;apply ae;apply aA;apply ax;apply ah;exact ab rfl;exact lr;exact rU;apply aa;apply ah;exact ab rfl;exact cB;exact af;exact ht;exact tL;exact ar;apply ae;apply bu;apply bP (m:=3);apply ah;exact ab rfl;exact gr;exact sh hy;apply aa;exact ab rfl;exact af;exact xo hy hl;apply ae;apply aA;apply aB;apply aa;apply ah;exact ab rfl;exact cB;apply aa;apply aP;apply aa;exact ab rfl;exact af;exact bc hl';apply aa;apply ah;exact ab rfl;exact bL;exact af;exact pq hR;apply bw;exact ab rfl;exact qU;apply ae;apply aK;apply aZ;apply au;apply ah;exact ab rfl;exact fJ;apply ah;exact ab rfl;exact cB;exact z _;apply bI;apply ah;exact ab rfl;exact dQ;apply ae;apply aA;exact aq;apply bw;exact ab rfl;exact Cy;apply ae;apply aA;apply aB;apply aa;apply ah;exact ab rfl;exact cB;apply aa;exact aq;apply aa;apply ah;exact ab rfl;exact bL;exact af;exact pq hR;apply bw;exact ab rfl;exact qU;exact ar;apply aM;apply aP;apply aa;exact ab rfl;exact af;exact bc hl'
end
noncomputable def Fx:MO→Bool
 | .inst _ _=>true
 | .attrs _=>true
 |_=>false
noncomputable def t8 (F F':bD):Prop:= ∀i o,Fx o=true→F.at i=some o→F'.at i=some o
theorem t8.trans {F F' F'':bD}(h:t8 F F')(h':t8 F' F''):t8 F F'':=fun i o a b=>h' i o a (h i o a b)
theorem bD.Le.ia {F F':bD}(h:F.Le F'):t8 F F':=fun i o _ b=>h i o b
theorem rf{F:bD}{x:Nat}{o o':MO}(h:F.at x=some o)(hi:Fx o=false):t8 F (F.set x o'):=fun i u a b=>by
 rw[bf h (fun e=>by subst e;rw[h]at b;cases b;rw[hi]at a;cases a)]
 exact b
theorem nO{F:bD}{x y:Nat}{l:List MV}{bs:List UInt8}(h:F.at x=some (.list l))(h':F.at y=some (.barr bs)):x≠y:=fun e=>by subst e;rw[h]at h';cases h'
section
variable{n:Nat}{b fl:Bool}{s:MO}{c:fw}{st:Nat}{a:aU}{wh:eg}{rc:eA}{B:ee}{F:bD}{H:HH}{σ:Nat→UInt8}{p e q z nn n' bg k W kk TE:Nat}{P P':jP}{ua fa:Option Int}{ry pr:Nat}{l:List (Nat×Nat)}{bs:List UInt8}{te:Int}
noncomputable def ig(nn:Nat)(l:List (Nat×Nat))(n':Nat)(P':jP):Prop:=(l=P'.toList∧n'=nn∧ ∀p e,P'=some (p,e)→nn<p∧p<nn+100)∨(l=(nn,n')::P'.toList∧nn≤n')
theorem nP{R:Int}:dU R σ P.toList=fx R σ P:=by cases P<;>rfl
theorem si{rc:eA}(hR:256≤c.R)(ht:ig nn l n' P')(hp0:F.at rc.pr=some (.list (dU c.R σ l)))(hy:F.at rc.ry=some (.barr bs)):
  ∃F1,cC (t8 F F1) (F1.at rc.pr=some (.list (fx c.R σ P'))) (F1.at rc.ry=some (.barr bs)) (ao fns (n+5) b 1052 [.ref 48,.int (num c.R nn)] (hp s c st a wh rc B F)=some (.bytes (sl σ nn (n' - nn)),hp s c st a wh rc B F1)):=by
 have l1:F.Le ((F.app [.list []]).app [.list []]):=le_app.trans le_app
 rcases ht with⟨rfl,rfl,h⟩|⟨rfl,h⟩
 ·rw[nP]at hp0
  rw[Nat.sub_self]
  refine⟨_,l1.ia,l1 _ _ hp0,l1 _ _ hy,?_⟩
  cases P' with
  |none=>exact CJ hp0
  |some pe=>
   obtain⟨p,e⟩:=pe
   obtain⟨h1,h2⟩:=h p e rfl
   exact CM hR hp0 (Int.ofNat_lt.mpr h1) (DX h2)
 ·have hp1:F.at rc.pr=some (.list (cj c.R σ nn n'::fx c.R σ P')):=by rw[hp0,←nP];rfl
  exact⟨_,l1.ia.trans (rf (l1 _ _ hp1) rfl),aW (l1 _ _ hp1),(bf (l1 _ _ hp1) (nO hp0 hy)).trans (l1 _ _ hy),CN hR hp1 (by cases P'<;>rfl)⟩
theorem pU(hR:256≤c.R)(ht:ig nn l n' P')(hn:n'≤1000)(hnn:nn≤n')(hb:bs.length≤1000)(hp0:F.at pr=some (.list (dU c.R σ l)))(hy:F.at ry=some (.barr bs))(hfa:fa=none∨(fa=some (W:Int)∧W≠n'∧W≤100∧n'≤100)):
  ∃F',cC (t8 F F') (F'.at ry=some (.barr (bs++sl σ nn (n' - nn)))) (F'.at pr=some (.list (fx c.R σ P'))) (ao fns (n+6) true 1151 [.ref 45] (hp s c st a wh ⟨nn,te,fa,false,ua,ry,pr⟩ B F)=some (.int ((n' - nn:Nat):Int),hp s c st a wh ⟨n',te,fa,false,ua,ry,pr⟩ B F')):=by
 obtain⟨F1,l1,k1,k2,e1⟩:=si (n:=n) (b:=true) (s:=s) (st:=st) (a:=a) (wh:=wh) (rc:=⟨nn,te,fa,false,ua,ry,pr⟩) (B:=B) hR ht hp0 hy
 have e2:=zK hR e1 k2 (by rw[bq];exact Nat.ble_eq_true_of_le (DY hb hn)) (bM (Nat.le_trans (Nat.sub_le n' nn) (Nat.le_trans hn (by decide)))) (fun w hw=>by
  rw[bq]
  rcases hfa with rfl|⟨rfl,h1,h2,h3⟩
  ·cases hw
  ·cases hw;rw[uV hnn];exact⟨fun e=>h1 (Int.ofNat.inj e),fT h2,fT h3⟩)
 rw[bq,show(nn:Int)+((n' - nn:Nat):Int)=n' from uV hnn]at e2
 exact⟨_,l1.trans (rf k2 rfl),aW k2,(bf k2 (nO k1 k2).symm).trans k1,e2⟩
theorem xp(hR:256≤c.R)(ht:ig nn l n' P')(hn:n'≤1000)(hnn:nn≤n')(hb:bs.length≤1000)(hp0:F.at pr=some (.list (dU c.R σ l)))(hy:F.at ry=some (.barr bs)):
  ∃F',cC (t8 F F') (F'.at ry=some (.barr (bs++sl σ nn (n' - nn)))) (F'.at pr=some (.list (fx c.R σ P'))) (ao fns (n+6) true 1151 [.ref 45] (hp s c st a wh ⟨nn,te,some (n':Int),false,ua,ry,pr⟩ B F)=some (.int ((n' - nn:Nat):Int),hp s c st a wh ⟨(n':Int)+1,te,some (n':Int),true,ua,ry,pr⟩ B F')):=by
 obtain⟨F1,l1,k1,k2,e1⟩:=si (n:=n) (b:=true) (s:=s) (st:=st) (a:=a) (wh:=wh) (rc:=⟨nn,te,some (n':Int),false,ua,ry,pr⟩) (B:=B) hR ht hp0 hy
 have h0:(nn:Int)+((sl σ nn (n' - nn)).length:Int)=n':=by rw[bq];exact uV hnn
 rw[←h0]at e1
 have e2:=zL hR e1 k2 (by rw[bq];exact Nat.ble_eq_true_of_le (DY hb hn)) (bM (Nat.le_trans (Nat.sub_le n' nn) (Nat.le_trans hn (by decide))))
 rw[h0,bq]at e2
 exact⟨_,l1.trans (rf k2 rfl),aW k2,(bf k2 (nO k1 k2).symm).trans k1,e2⟩
end
noncomputable def aR:fY→Nat→IS
 | .nil,_=> .bad
 | .cons s _,0=>s
 | .cons _ r,n+1=>aR r n
noncomputable def tT(P:jP)(x:Nat):Prop:=match P with
 |none=>False
 |some (p,e)=>p≤x∧x<e
theorem xq(x:Nat):tT none x=False:=rfl
noncomputable def fW(nn W:Nat)(P:jP):Prop:= ∀p e,P=some (p,e)→nn<p∧p≤nn+2∧p<e∧e≤W
section
variable{n:Nat}{b fl io hfin:Bool}{s:MO}{c:fw}{st:Nat}{a:aU}{wh:eg}{rc:eA}{B:ee}{F:bD}{H:HH}{σ:Nat→UInt8}{p e q z nn n' bg k W kk TE:Nat}{P P':jP}{ua fa:Option Int}{ry pr:Nat}{l:List (Nat×Nat)}{bs:List UInt8}{te:Int}
theorem fP(h1:nn<p)(h2:p≤nn+2)(h3:p<e)(h4:e≤W):fW nn W (some (p,e)):=fun _ _ h=>by cases h;exact⟨h1,h2,h3,h4⟩
theorem fQ:fW nn W none:=fun _ _ h=>by cases h
theorem jn{a z x:Nat}(h:a≤z):x<z↔(x<a∨(a≤x∧x<z)):=⟨fun k=>(Nat.lt_or_ge x a).imp_right (⟨·,k⟩),fun k=>k.elim (Nat.lt_of_lt_of_le · h) And.right⟩
theorem pV{a z x:Nat}(h:z≤a): ¬(a≤x∧x<z):=fun k=>absurd (Nat.lt_of_lt_of_le k.2 h) (Nat.not_lt.mpr k.1)
theorem pW{p e q z p' e' x:Nat}(a1:p'≤p)(a2:p'≤q)(a3:p'=p∨p'=q)(b1:e≤e')(b2:z≤e')(b3:e'=e∨e'=z)(c1:q≤e)(c2:p≤z):(p'≤x∧x<e')↔((p≤x∧x<e)∨(q≤x∧x<z)):=by
 refine⟨fun k=> ?_,fun k=>k.elim (fun k=>⟨Nat.le_trans a1 k.1,Nat.lt_of_lt_of_le k.2 b1⟩) fun k=>⟨Nat.le_trans a2 k.1,Nat.lt_of_lt_of_le k.2 b2⟩⟩
 rcases Nat.lt_or_ge x e with c|c
 ·rcases Nat.lt_or_ge x p with d|d
  ·exact .inr ⟨a3.elim (fun r=>absurd (r▸k.1) (Nat.not_le.mpr d)) fun r=>r▸k.1,Nat.lt_of_lt_of_le d c2⟩
  ·exact .inl ⟨d,c⟩
 ·exact .inr ⟨Nat.le_trans c1 c,b3.elim (fun r=>absurd (r▸k.2) (Nat.not_lt.mpr c)) fun r=>r▸k.2⟩
theorem near{a b:Nat}(h:a≤b+2):a<b+100:=Nat.lt_of_le_of_lt h (Nat.add_lt_add_left (by decide) b)
theorem nQ{a n W:Nat}(h:a≤W):a≤max n W:=Nat.le_trans h (Nat.le_max_right n W)
theorem xr(hP:fW nn W P)(hq:nn≤q)(hq2:q≤nn+2)(hz:z≤W)(hl:sg P q z l):dk fun n' P'=>nV (ig nn l n' P') (nn≤n') (n'≤max nn W) (fW n' W P') (∀x,(x<n'∨tT P' x)↔(x<nn∨tT P x∨(q≤x∧x<z))):=by
 cases P with
 |none=>
  rcases hl with⟨h,rfl⟩|⟨h,rfl⟩
  ·rcases Nat.lt_or_eq_of_le hq with h'|h'
   ·exact⟨nn,some (q,z),.inl ⟨rfl,rfl,fun p e h=>by cases h;exact⟨h',near hq2⟩⟩,Nat.le_refl _,Nat.le_max_left _ _,fP h' hq2 h hz,fun x=>or_congr_right (iff_of_eq (false_or _)).symm⟩
   ·subst h'
    exact⟨z,none,.inr ⟨rfl,Nat.le_of_lt h⟩,Nat.le_of_lt h,nQ hz,fQ,fun x=>(iff_of_eq (or_false _)).trans ((jn (Nat.le_of_lt h)).trans (or_congr_right (iff_of_eq (false_or _)).symm))⟩
  ·exact⟨nn,none,.inl ⟨rfl,rfl,fun p e h=>by cases h⟩,Nat.le_refl _,Nat.le_max_left _ _,fQ,fun x=>or_congr_right (or_iff_left (pV h)).symm⟩
 |some pe=>
  obtain⟨p,e⟩:=pe
  obtain⟨h1,h2,h3,h4⟩:=hP p e rfl
  rcases hl with⟨h,rfl⟩|⟨h,h',rfl⟩|⟨h,h',p',e',rfl,k1,k2,k3,k4,k5,k6⟩
  ·exact⟨nn,some (p,e),.inl ⟨rfl,rfl,fun p e h=>by cases h;exact⟨h1,near h2⟩⟩,Nat.le_refl _,Nat.le_max_left _ _,fP h1 h2 h3 h4,fun x=>or_congr_right (or_iff_left (pV h)).symm⟩
  ·obtain rfl:q=nn:=Nat.le_antisymm (Nat.le_of_succ_le_succ (Nat.le_of_succ_le_succ (Nat.le_trans (Nat.succ_le_succ h) (Nat.le_trans h' h2)))) hq
   exact⟨z,some (p,e),.inr ⟨rfl,Nat.le_of_lt h⟩,Nat.le_of_lt h,nQ hz,fP h' (Nat.le_trans h2 (Nat.add_le_add_right (Nat.le_of_lt h) 2)) h3 h4,fun x=>(or_congr_left (jn (Nat.le_of_lt h))).trans (or_assoc.trans (or_congr_right or_comm))⟩
  ·have c1:q≤e:=Nat.le_trans hq2 (Nat.le_trans (Nat.succ_le_succ h1) h3)
   have k7:e'≤W:=k6.elim (fun r=>r▸h4) fun r=>r▸hz
   rcases Nat.lt_or_ge nn p' with hp|hp
   ·exact⟨nn,some (p',e'),.inl ⟨rfl,rfl,fun p e h=>by cases h;exact⟨hp,near (Nat.le_trans k2 hq2)⟩⟩,Nat.le_refl _,Nat.le_max_left _ _,fP hp (Nat.le_trans k2 hq2) (Nat.lt_of_le_of_lt k2 (Nat.lt_of_lt_of_le h k5)) k7,fun x=>or_congr_right (pW k1 k2 k3 k4 k5 k6 c1 h')⟩
   ·obtain rfl:p'=q:=k3.resolve_left fun r=>absurd (r▸hp) (Nat.not_le.mpr h1)
    obtain rfl:p'=nn:=Nat.le_antisymm hp hq
    have k8:=Nat.le_trans (Nat.le_of_lt h) k5
    exact⟨e',none,.inr ⟨rfl,k8⟩,k8,nQ k7,fQ,fun x=>(iff_of_eq (or_false _)).trans ((jn k8).trans (or_congr_right (pW k1 k2 k3 k4 k5 k6 c1 h')))⟩
end
section
variable{n:Nat}{b fl io hfin:Bool}{s:MO}{c:fw}{st:Nat}{a:aU}{wh:eg}{rc:eA}{B:ee}{F:bD}{H:HH}{σ:Nat→UInt8}{p e q z nn n' bg k W kk TE:Nat}{P P':jP}{ua fa fa':Option Int}{ry pr:Nat}{l:List (Nat×Nat)}{bs:List UInt8}{te:Int}
noncomputable abbrev gJ (R:Int)(σ:Nat→UInt8)(bg k kk:Nat)(hfin io:Bool):Loc:=[.ref 45,.int (num R bg),.bytes (sl σ bg k),.bool hfin,.bool io,.bytes (sl σ bg kk),.unb]
theorem Fy(hR:256≤c.R)(hk:k≤1000)(hkk:kk≤k)(hW:W≤100)(hnW:nn≤W)(hP:fW nn W P)(hf:hfin=true→bg+k=W)(hfa:fa=none∨fa=some (W:Int))(hp0:F.at pr=some (.list (fx c.R σ P)))(hy:F.at ry=some (.barr bs)):
  dk fun F' y=>bx (F.Le F') (F'.at y=some (.list (fx c.R σ P))) (cU (ao fns (n+6)) true (aR dY.body 2) (gJ c.R σ bg k kk hfin io) (hp s c st a wh ⟨nn,te,fa,false,ua,ry,pr⟩ B F)=
    some (.next,gJ c.R σ bg k kk hfin io,hp s c st a wh ⟨nn,te,(match hfin&&decide (kk=k)with|true=>some (W:Int)|false=>fa),false,ua,ry,y⟩ B F')):=by
 have ln1: ∀H,cu true .len [.bytes (sl σ bg kk)] H=some (.int kk,H):=fun H=>by rw[bc (bM (Nat.le_trans hkk (Nat.le_trans hk (by decide)))),bq]
 have ln2: ∀H,cu true .len [.bytes (sl σ bg k)] H=some (.int k,H):=fun H=>by rw[bc (bM (Nat.le_trans hk (by decide))),bq]
 cases hfin with
 |false=>
  refine⟨F,pr,.refl,hp0,?_⟩
  unfold aR dY;dsimp only[aR]
  apply aC;apply bK;exact ab rfl;exact ar
 |true=>
  by_cases h:kk=k
  ·rw[decide_eq_true h]
   obtain⟨F',y,l1,h1,e1⟩:=Fu (n:=n+1) (b:=true) (s:=s) (st:=st) (a:=a) (wh:=wh) (B:=B) (F:=F) (ua:=ua) (ry:=ry) (te:=te) (hf:=false) hR (fT hW) hnW (Nat.le_trans hW (by decide)) hp0 (fun p e h=>⟨(hP p e h).1,(hP p e h).2.2⟩) hfa
   have z1: ∀H,aI .eq (.int (kk:Int)) (.int (k:Int)) H=some true:=fun H=>congrArg some (decide_eq_true (mY h))
   have e2:ao fns (n+6) true 28 [.int (num c.R bg),.int k,.int c.R] (hp s c st a wh ⟨nn,te,fa,false,ua,ry,pr⟩ B F)=some (.int (num c.R W),hp s c st a wh ⟨nn,te,fa,false,ua,ry,pr⟩ B F):=by
    rw[pq hR,show(bg:Int)+k=W by have:=hf rfl;exact rD this]
   refine⟨F',y,l1,h1,?_⟩
   unfold aR dY;dsimp only[aR]
   apply aK;apply aZ;exact ab rfl;apply au;apply aP;apply aa;exact ab rfl;exact af;exact ln1 _;apply aP;apply aa;exact ab rfl;exact af;exact ln2 _;exact z1 _;apply ae;apply bu;apply ax;exact ab rfl;exact zu;apply aa;apply aB;apply aa;exact ab rfl;apply aa;apply aP;apply aa;exact ab rfl;exact af;exact ln2 _;apply aa;apply ah;exact ab rfl;exact bL;exact af;exact e2;exact af;exact e1;exact ar
  ·rw[decide_eq_false h]
   have z1: ∀H,aI .eq (.int (kk:Int)) (.int (k:Int)) H=some false:=fun H=>congrArg some (decide_eq_false (rB h))
   refine⟨F,pr,.refl,hp0,?_⟩
   unfold aR dY;dsimp only[aR]
   apply aC;apply aZ;exact ab rfl;apply au;apply aP;apply aa;exact ab rfl;exact af;exact ln1 _;apply aP;apply aa;exact ab rfl;exact af;exact ln2 _;exact z1 _;exact ar
theorem zM(hR:256≤c.R)(hW:W≤100)(hkk:bg+kk≤W)(hfa:fa=none∨fa=some (W:Int)):
  cU (ao fns (n+6)) true (aR dY.body 3) (gJ c.R σ bg k kk hfin io) (hp s c st a wh ⟨nn,te,fa,false,ua,ry,pr⟩ B F)=some (.next,gJ c.R σ bg k kk hfin io,hp s c st a wh ⟨nn,te,fa,false,ua,ry,pr⟩ B F):=by
 rcases hfa with rfl|rfl
 ·unfold aR dY;dsimp only[aR]
  apply aC;apply au;apply ah;exact ab rfl;exact fJ;exact aq;exact rfl;exact ar
 ·have e1:=Fw (n:=n+3) (b:=true) (s:=s) (st:=st) (a:=a) (wh:=wh) (rc:=⟨nn,te,some (W:Int),false,ua,ry,pr⟩) (B:=B) (F:=F) (σ:=σ) hR (Nat.le_trans hW (by decide)) rfl (fT hW) hkk
  unfold aR dY;dsimp only[aR]
  apply aK;apply au;apply ah;exact ab rfl;exact fJ;exact aq;exact rfl;apply ae;apply aA;apply ax;exact ab rfl;exact zv;apply aa;exact ab rfl;apply aa;exact ab rfl;exact af;exact e1;exact t6;exact ar
theorem CS:cU (ao fns (n+6)) true (aR dY.body 4) (gJ c.R σ bg k 0 hfin io) (hp s c st a wh ⟨nn,te,fa,false,ua,ry,pr⟩ B F)=some (.next,gJ c.R σ bg k 0 hfin io,hp s c st a wh ⟨nn,te,fa,false,ua,ry,pr⟩ B F):=by
 unfold aR dY;dsimp only[aR]
 apply aC;apply aZ;apply bI;apply ah;exact ab rfl;exact dQ;apply au;exact ab rfl;exact aq;exact rfl;exact ar
theorem Fz(hkk:0<kk)(h:fO (n+1) true s c st a wh ⟨nn,te,fa,false,ua,ry,pr⟩ B σ F bg kk nn l):dk fun F' pr'=>bx (F.Le F') (F'.at pr'=some (.list (dU c.R σ l))) (cU (ao fns (n+6)) true (aR dY.body 4) (gJ c.R σ bg k kk hfin io) (hp s c st a wh ⟨nn,te,fa,false,ua,ry,pr⟩ B F)=some (.next,gJ c.R σ bg k kk hfin io,hp s c st a wh ⟨nn,te,fa,false,ua,ry,pr'⟩ B F')):=by
 obtain⟨F',pr',l1,h1,e1⟩:=h
 have z: ∀H,aI .ne (.bytes (sl σ bg kk)) (.bytes []) H=some true:=fun H=>by rw[ne_nil,pS hkk];rfl
 refine⟨F',pr',l1,h1,?_⟩
 unfold aR dY;dsimp only[aR]
 apply aK;apply aZ;apply bI;apply ah;exact ab rfl;exact dQ;apply au;exact ab rfl;exact aq;exact z _;apply ae;apply bu;apply ax;apply ah;exact ab rfl;exact lr;exact Cn;apply aa;exact ab rfl;apply aa;exact ab rfl;apply aa;apply ah;exact ab rfl;exact cB;exact af;exact e1;exact ar
noncomputable def bj(fa:Option Int)(hfin:Bool)(kk k W:Nat):Option Int:=match hfin&&decide (kk=k)with
 |true=>some (W:Int)
 |false=>fa
theorem jo(hfa:fa=none∨fa=some (W:Int)):bj fa hfin kk k W=none∨bj fa hfin kk k W=some (W:Int):=by
 unfold bj
 cases hfin&&decide (kk=k)with
 |true=>exact .inr rfl
 |false=>exact hfa
structure pX(nn W bg kk:Nat)(P:jP)(n':Nat)(P':jP):Prop where
 le:nn≤n'
 leW:n'≤W
 ok:fW n' W P'
 set: ∀x,(x<n'∨tT P' x)↔(x<nn∨tT P x∨(bg≤x∧x<bg+kk))
noncomputable def cZ(fa':Option Int)(n' W:Nat):Bool:=fa'.isSome&&decide (n'=W)
noncomputable def bz(x:Int):Bool→Int
 |true=>x+1
 |false=>x
theorem CT(h:0<kk):dk fun q z=>p8 (pR bg kk nn q z) (q≤z) (nn≤q) ((bg≤nn+2→q≤nn+2)) ((nn≤W→bg+kk≤W→z≤W)) (∀x,(x<nn∨(q≤x∧x<z))↔(x<nn∨(bg≤x∧x<bg+kk))):=by
 rcases Nat.lt_or_ge bg nn with h1|h1
 ·rcases Nat.lt_or_ge nn (bg+kk)with h2|h2
  ·exact⟨nn,bg+kk,.inl ⟨h1,rfl,.inr ⟨Nat.le_of_lt h2,rfl⟩⟩,Nat.le_of_lt h2,Nat.le_refl _,fun _=>Nat.le_add_right _ _,fun _ h=>h,fun x=>yq (Nat.le_of_lt h1)⟩
  ·exact⟨nn,nn,.inl ⟨h1,rfl,.inl ⟨h2,rfl⟩⟩,Nat.le_refl _,Nat.le_refl _,fun _=>Nat.le_add_right _ _,fun h _=>h,fun x=>BC h2⟩
 ·exact⟨bg,bg+kk,.inr ⟨h1,rfl,rfl⟩,Nat.le_add_right _ _,h1,fun h=>h,fun _ h=>h,fun x=>Iff.rfl⟩
theorem xt(hR:256≤c.R)(hW:W≤100)(hnW:nn≤W)(hP:fW nn W P)(hb:bg≤nn+2)(hkW:bg+kk≤W)(hkk:0<kk)(hp0:F.at pr=some (.list (fx c.R σ P))):
  iX fun l n' P'=>bx (ig nn l n' P') (pX nn W bg kk P n' P') (fO n true s c st a wh ⟨nn,te,fa,false,ua,ry,pr⟩ B σ F bg kk nn l):=by
 obtain⟨q,z,h1,h2,h3,h4,h5,h6⟩:=CT (bg:=bg) (nn:=nn) (W:=W) hkk
 have hz:=h5 hnW hkW
 have h7: ∃l,sg P q z l∧fO n true s c st a wh ⟨nn,te,fa,false,ua,ry,pr⟩ B σ F bg kk nn l:=by
  cases P with
  |none=>exact xk hR (Nat.le_trans (Nat.le_add_left kk bg) (Nat.le_trans hkW (Nat.le_trans hW (by decide)))) (fT (Nat.le_trans (Nat.le_add_right bg kk) (Nat.le_trans hkW hW))) (fT (D5 hW hnW)) h1 h2 (Nat.le_trans hz (Nat.le_trans hW (by decide))) hp0
  |some pe=>
   obtain⟨p,e⟩:=pe
   obtain⟨k1,k2,k3,k4⟩:=hP p e rfl
   exact xm hR (Nat.le_trans (Nat.le_add_left kk bg) (Nat.le_trans hkW (Nat.le_trans hW (by decide)))) (fT (Nat.le_trans (Nat.le_add_right bg kk) (Nat.le_trans hkW hW))) (fT (D5 hW hnW)) h1 h2 (Nat.le_trans hz (Nat.le_trans hW (by decide))) hp0 k1 k3 (Nat.le_trans k4 (Nat.le_trans hW (by decide))) (Io k2) (by have:=h4 hb;exact D6 this k1 k3)
 obtain⟨l,k1,k2⟩:=h7
 obtain⟨n',P',m1,m2,m3,m4,m5⟩:=xr hP h3 (h4 hb) hz k1
 exact⟨l,n',P',m1,⟨m2,by rwa[Nat.max_eq_right hnW]at m3,m4,fun x=>(m5 x).trans (by have:=h6 x;constructor<;>(intro h;rcases h with h|h|h<;>first|exact .inl h|exact .inr (.inl h)|(rcases this.mp (.inr h)with h|h;exact .inl h;exact .inr (.inr h))|(rcases this.mpr (.inr h)with h|h;exact .inl h;exact .inr (.inr h))))⟩,k2⟩
theorem CU(hR:256≤c.R)(hW:W≤100)(ht:ig nn l n' P')(hn:n'≤W)(hnn:nn≤n')(hb:bs.length≤1000)(hp0:F.at pr=some (.list (dU c.R σ l)))(hy:F.at ry=some (.barr bs))(hfa:fa=none∨fa=some (W:Int)):
  ∃F',cC (t8 F F') (F'.at ry=some (.barr (bs++sl σ nn (n' - nn)))) (F'.at pr=some (.list (fx c.R σ P'))) (ao fns (n+6) true 1151 [.ref 45] (hp s c st a wh ⟨nn,te,fa,false,ua,ry,pr⟩ B F)=some (.int ((n' - nn:Nat):Int),hp s c st a wh ⟨bz n' (cZ fa n' W),te,fa,cZ fa n' W,ua,ry,pr⟩ B F')):=by
 unfold cZ
 rcases hfa with rfl|rfl
 ·exact pU hR ht (Nat.le_trans hn (Nat.le_trans hW (by decide))) hnn hb hp0 hy (.inl rfl) (W:=W)
 ·by_cases h:n'=W
  ·rw[decide_eq_true h]
   rw[←h]
   exact xp hR ht (Nat.le_trans hn (Nat.le_trans hW (by decide))) hnn hb hp0 hy
  ·rw[decide_eq_false h]
   exact pU hR ht (Nat.le_trans hn (Nat.le_trans hW (by decide))) hnn hb hp0 hy (.inr ⟨rfl,Ne.symm h,hW,Nat.le_trans hn hW⟩)
theorem zN{nn':Int}{fa1 fa2:Option Int}{hf':Bool}{F1 F2 F3:bD}{pr1 pr2:Nat}{g:Int}(hR:256≤c.R)(hk:k≤100)(hTE:TE≤1000)(h1:(bg:Int) - nn<128)(h2:(nn:Int) - bg<128)(h3:(bg:Int) - TE<128)(h4:(TE:Int) - bg<128)(hi:pT bg k TE kk)
  (e3:cU (ao fns (n+6)) true (aR dY.body 2) (gJ c.R σ bg k kk hfin (decide ((bg:Int)≤nn))) (hp s c st a wh ⟨nn,TE,fa,false,ua,ry,pr⟩ B F)=some (.next,gJ c.R σ bg k kk hfin (decide ((bg:Int)≤nn)),hp s c st a wh ⟨nn,TE,fa1,false,ua,ry,pr1⟩ B F1))
  (e4:cU (ao fns (n+6)) true (aR dY.body 3) (gJ c.R σ bg k kk hfin (decide ((bg:Int)≤nn))) (hp s c st a wh ⟨nn,TE,fa1,false,ua,ry,pr1⟩ B F1)=some (.next,gJ c.R σ bg k kk hfin (decide ((bg:Int)≤nn)),hp s c st a wh ⟨nn,TE,fa1,false,ua,ry,pr1⟩ B F1))
  (e5:cU (ao fns (n+6)) true (aR dY.body 4) (gJ c.R σ bg k kk hfin (decide ((bg:Int)≤nn))) (hp s c st a wh ⟨nn,TE,fa1,false,ua,ry,pr1⟩ B F1)=some (.next,gJ c.R σ bg k kk hfin (decide ((bg:Int)≤nn)),hp s c st a wh ⟨nn,TE,fa1,false,ua,ry,pr2⟩ B F2))
  (e6:ao fns (n+6) true 1151 [.ref 45] (hp s c st a wh ⟨nn,TE,fa1,false,ua,ry,pr2⟩ B F2)=some (.int g,hp s c st a wh ⟨nn',TE,fa2,hf',ua,ry,pr2⟩ B F3)):
  ao fns (n+7) true 1123 [.ref 45,.int (num c.R bg),.bytes (sl σ bg k),.bool hfin] (hp s c st a wh ⟨nn,TE,fa,false,ua,ry,pr⟩ B F)=some (.tup [.int g,.bool (decide ((bg:Int)≤nn))],hp s c st a wh ⟨nn',TE,fa2,hf',ua,ry,pr2⟩ B F3):=by
 have e1:=wG (n:=n+3) (b:=true) (H:=hp s c st a wh ⟨nn,TE,fa,false,ua,ry,pr⟩ B F) hR h1 h2
 have e2:=Fv (n:=n+3) (b:=true) (s:=s) (st:=st) (a:=a) (wh:=wh) (rc:=⟨nn,TE,fa,false,ua,ry,pr⟩) (B:=B) (F:=F) (σ:=σ) hR (Nat.le_trans hk (by decide)) rfl h3 h4 hi
 apply aw (F:=dY) (loc:=[.ref 45,.int (num c.R bg),.bytes (sl σ bg k),.bool hfin,.unb,.unb,.unb]) rfl rfl rfl rfl;unfold dY;dsimp only
 apply ae;apply aA;apply aB;apply aa;exact ab rfl;apply aa;apply ah;exact ab rfl;exact cB;apply aa;apply ah;exact ab rfl;exact bL;exact af;exact e1;exact ik;apply ae;apply aA;apply ax;exact ab rfl;exact zq;apply aa;exact ab rfl;apply aa;exact ab rfl;exact af;exact e2;exact t6;apply ae;exact e3;apply ae;exact e4;apply ae;exact e5;apply ae;apply aA;apply ax;exact ab rfl;exact zr;exact af;exact e6;exact xU;apply aM;apply bH;apply aa;exact ab rfl;apply aa;exact ab rfl;exact af;exact rfl
noncomputable def sj(n:Nat)(s:MO)(c:fw)(st:Nat)(a:aU)(wh:eg)(B:ee)(σ:Nat→UInt8)(hfin:Bool)(nn bg k kk W TE:Nat)(P:jP)(fa ua:Option Int)(ry pr:Nat)(bs:List UInt8)(F:bD):Prop:=
 jM fun n' P' F' pr'=>nV (pX nn W bg kk P n' P') (t8 F F') (F'.at ry=some (.barr (bs++sl σ nn (n' - nn)))) (F'.at pr'=some (.list (fx c.R σ P'))) (ao fns (n+7) true 1123 [.ref 45,.int (num c.R bg),.bytes (sl σ bg k),.bool hfin] (hp s c st a wh ⟨nn,TE,fa,false,ua,ry,pr⟩ B F)=
    some (.tup [.int ((n' - nn:Nat):Int),.bool (decide ((bg:Int)≤nn))],hp s c st a wh ⟨bz n' (cZ (bj fa hfin kk k W) n' W),TE,bj fa hfin kk k W,cZ (bj fa hfin kk k W) n' W,ua,ry,pr'⟩ B F'))
theorem FA(hR:256≤c.R)(hW:W≤100)(hnW:nn≤W)(hP:fW nn W P)(hb:bg≤nn+2)(hkW:bg+k≤W)(hf:hfin=true→bg+k=W)(hfa:fa=none∨fa=some (W:Int))(hTE:TE≤100)(hi:pT bg k TE kk)(hbs:bs.length≤1000)
  (hp0:F.at pr=some (.list (fx c.R σ P)))(hy:F.at ry=some (.barr bs)):
  sj n s c st a wh B σ hfin nn bg k kk W TE P fa ua ry pr bs F:=by
 have hkk:kk≤k:=by rcases hi with⟨q,h⟩|⟨_,⟨q,h⟩|⟨q,h⟩⟩<;>first|exact Nat.le_of_eq h|exact h▸q|exact h▸Nat.zero_le k
 obtain⟨F1,y1,l1,hy1,e3⟩:=Fy (n:=n) (s:=s) (st:=st) (a:=a) (wh:=wh) (B:=B) (io:=decide ((bg:Int)≤nn)) (ua:=ua) (te:=TE) hR (Nat.le_trans (Nat.le_add_left k bg) (Nat.le_trans hkW (Nat.le_trans hW (by decide)))) hkk hW hnW hP hf hfa hp0 hy
 have hfa1:=jo (hfin:=hfin) (kk:=kk) (k:=k) hfa
 have e4:=zM (n:=n) (s:=s) (st:=st) (a:=a) (wh:=wh) (B:=B) (F:=F1) (σ:=σ) (bg:=bg) (k:=k) (kk:=kk) (hfin:=hfin) (io:=decide ((bg:Int)≤nn)) (ua:=ua) (te:=TE) (ry:=ry) (pr:=y1) (nn:=nn) hR hW (Nat.le_trans (Nat.add_le_add_left hkk bg) hkW) hfa1
 have fin: ∀(l:List (Nat×Nat))(n':Nat)(P':jP)(F2:bD)(pr2:Nat),ig nn l n' P'→pX nn W bg kk P n' P'→F1.Le F2→F2.at pr2=some (.list (dU c.R σ l))→
   cU (ao fns (n+6)) true (aR dY.body 4) (gJ c.R σ bg k kk hfin (decide ((bg:Int)≤nn))) (hp s c st a wh ⟨nn,TE,bj fa hfin kk k W,false,ua,ry,y1⟩ B F1)=some (.next,gJ c.R σ bg k kk hfin (decide ((bg:Int)≤nn)),hp s c st a wh ⟨nn,TE,bj fa hfin kk k W,false,ua,ry,pr2⟩ B F2)→sj n s c st a wh B σ hfin nn bg k kk W TE P fa ua ry pr bs F:=
  fun l n' P' F2 pr2 t1 t2 t3 t4 t5=>by
   obtain⟨F3,l3,g1,g2,e6⟩:=CU (n:=n) (s:=s) (st:=st) (a:=a) (wh:=wh) (B:=B) (ua:=ua) (te:=TE) hR hW t1 t2.leW t2.le hbs t4 (t3 _ _ (l1 _ _ hy)) hfa1
   exact⟨n',P',F3,pr2,t2,((l1.trans t3).ia.trans l3),g1,g2,zN hR (Nat.le_trans (Nat.le_add_left k bg) (Nat.le_trans hkW (Nat.le_trans hW (by decide)))) (Nat.le_trans hTE (by decide)) (fT (Nat.le_trans (Nat.le_add_right bg k) (Nat.le_trans hkW hW))) (fT (Nat.le_trans hnW hW)) (fT (Nat.le_trans (Nat.le_add_right bg k) (Nat.le_trans hkW hW))) (fT hTE) hi e3 e4 t5 e6⟩
 rcases Nat.eq_zero_or_pos kk with rfl|h
 ·exact fin P.toList nn P F1 y1 (.inl ⟨rfl,rfl,fun p e h=>⟨(hP p e h).1,near (hP p e h).2.1⟩⟩) ⟨Nat.le_refl _,hnW,hP,fun x=>⟨fun h=>h.elim .inl (fun h=> .inr (.inl h)),fun h=>h.elim .inl (fun h=>h.elim .inr (fun h=>absurd h.2 (Nat.not_lt.mpr h.1)))⟩⟩ .refl (by rw[nP];exact hy1) CS
 ·obtain⟨l,n',P',t1,t2,t3⟩:=xt (n:=n+1) (s:=s) (st:=st) (a:=a) (wh:=wh) (B:=B) (F:=F1) (σ:=σ) (ua:=ua) (te:=TE) (ry:=ry) (fa:=bj fa hfin kk k W) hR hW hnW hP hb (Nat.le_trans (Nat.add_le_add_left hkk bg) hkW) h hy1
  obtain⟨F2,pr2,l2,h2,e5⟩:=Fz (n:=n) (io:=decide ((bg:Int)≤nn)) (hfin:=hfin) (k:=k) h t3
  exact fin l n' P' F2 pr2 t1 t2 l2 h2 e5
end
section
variable{n:Nat}{b fl io hfin hu:Bool}{s:MO}{c:fw}{st:Nat}{a:aU}{wh:eg}{rc:eA}{B:ee}{F:bD}{H:HH}{σ:Nat→UInt8}{g d:Nat}{sp tp sq ak f wn ur:Int}{op pl:List UInt8}{k m:Nat}{now:Int}
theorem CV{i r:Int}{x:Bool}(h1:F.at g=some (.inst 702 d))(h2:F.at d=some (d6 sp tp sq ak f wn ur op pl))(hb: ∀H,cI .band (.int f) (.int i) H=some (.int r,H))(hr:decide (r=0)= !x):
  ao fns (n+1) b 685 [.ref g,.int i] (hp s c st a wh rc B F)=some (.bool x,hp s c st a wh rc B F):=by
 have z: ∀H,aI .ne (.int r) (.int 0) H=some x:=fun H=>by
  show some (!decide (r=0))=_
  rw[hr,Bool.not_not]
 unfold d6 at h2
 apply aw (F:=Bd) (loc:=[.ref g,.int i]) rfl rfl rfl rfl;unfold Bd;dsimp only
 apply aM;apply au;apply aF;apply ah;exact ab rfl;exact(seg_at h1 h2 rfl rfl);exact ab rfl;exact hb _;exact aq;exact z _
noncomputable def jQ:Bool→Bool→Int
 |false,false=>16
 |true,false=>17
 |false,true=>48
 |true,true=>49
theorem AJ(h1:F.at g=some (.inst 702 d))(h2:F.at d=some (d6 sp tp sq ak (jQ hfin hu) wn ur op pl)):ao fns (n+1) b 685 [.ref g,.int 1] (hp s c st a wh rc B F)=some (.bool hfin,hp s c st a wh rc B F):=
 CV (r:=match hfin with|true=>1|false=>0) h1 h2 (fun H=>by cases hfin<;>cases hu<;>rfl) (by cases hfin<;>rfl)
theorem FC(h1:F.at g=some (.inst 702 d))(h2:F.at d=some (d6 sp tp sq ak (jQ hfin hu) wn ur op pl)):ao fns (n+1) b 685 [.ref g,.int 2] (hp s c st a wh rc B F)=some (.bool false,hp s c st a wh rc B F):=
 CV (r:=0) h1 h2 (fun H=>by cases hfin<;>cases hu<;>rfl) rfl
theorem CW(h1:F.at g=some (.inst 702 d))(h2:F.at d=some (d6 sp tp sq ak (jQ hfin hu) wn ur op pl)):ao fns (n+1) b 685 [.ref g,.int 32] (hp s c st a wh rc B F)=some (.bool hu,hp s c st a wh rc B F):=
 CV (r:=match hu with|true=>32|false=>0) h1 h2 (fun H=>by cases hfin<;>cases hu<;>rfl) (by cases hu<;>rfl)
theorem HG(h1:F.at g=some (.inst 702 d))(h2:F.at d=some (d6 sp tp sq ak (jQ hfin hu) wn ur op pl))(hl:Nat.ble pl.length 1000000=true):
  ao fns (n+2) b 692 [.ref g] (hp s c st a wh rc B F)=some (.int (bz pl.length hfin),hp s c st a wh rc B F):=by
 have e1:=AJ (n:=n) (b:=b) (s:=s) (c:=c) (st:=st) (a:=a) (wh:=wh) (rc:=rc) (B:=B) h1 h2
 have e2:=FC (n:=n) (b:=b) (s:=s) (c:=c) (st:=st) (a:=a) (wh:=wh) (rc:=rc) (B:=B) h1 h2
 have mm:aX (hp s c st a wh rc B F) g 82 685:=w2 h1 h2 rfl rfl
 have pp:aQ (hp s c st a wh rc B F) g 53 (.bytes pl):=seg_at h1 h2 rfl rfl
 cases hfin with
 |true=>
  apply aw (F:=um) (loc:=[.ref g,.unb]) rfl rfl rfl rfl;unfold um;dsimp only
  apply ae;apply aA;apply aP;apply aa;apply ah;exact ab rfl;exact pp;exact af;exact bc hl;exact tL;apply ae
  apply aC
  apply ax;exact ab rfl;exact mm;apply aa;exact aq;exact af;exact e2;exact ar;apply ae;apply aK;apply ax;exact ab rfl;exact mm;apply aa;exact aq;exact af;exact e1;apply ae;apply zb;exact rfl;exact aq;exact rfl;exact rfl;exact ar;apply aM;exact ab rfl
 |false=>
  apply aw (F:=um) (loc:=[.ref g,.unb]) rfl rfl rfl rfl;unfold um;dsimp only
  apply ae;apply aA;apply aP;apply aa;apply ah;exact ab rfl;exact pp;exact af;exact bc hl;exact tL;apply ae;apply aC;apply ax;exact ab rfl;exact mm;apply aa;exact aq;exact af;exact e2;exact ar;apply ae;apply aC;apply ax;exact ab rfl;exact mm;apply aa;exact aq;exact af;exact e1;exact ar;apply aM;exact ab rfl
theorem CX:ao fns (n+2) b 893 [.ref 8,.str 201] (hp s c 183 a wh rc B F)=some (.none,hp s c 186 a wh rc B F):=by kernel_rfl
theorem CY:ao fns (n+2) b 893 [.ref 8,.str 201] (hp s c 184 a wh rc B F)=some (.none,hp s c 187 a wh rc B F):=by kernel_rfl
theorem CZ:ao fns (n+1) b 748 [.str st] H=some (.bool (Nat.beq 183 st||(Nat.beq 184 st||(Nat.beq 185 st||false))),H):=by kernel_rfl
theorem FD(hS:SB wh.S m)(hm:m≤1000): ∃S,SB S (m+1)∧ao fns (n+3) b 900 [.ref 8,.int now] (hp s c st a wh rc B F)=some (.none,hp s c 189 a ⟨wh.D,some (now+7,wh.g+1),true,S,wh.g+1⟩ rc B F):=by
 obtain⟨S,h1,e1⟩:=CI (n:=n) (b:=b) (s:=s) (c:=c) (st:=189) (a:=a) (rc:=rc) (B:=B) (F:=F) (t:=now+7) hS hm
 refine⟨S,h1,?_⟩
 apply aN (F:=Bj) (loc:=[.ref 8,.int now,.unb]) rfl rfl rfl rfl;unfold Bj;dsimp only
 apply ae;apply aA;exact aq;apply bw;exact ab rfl;exact Hj;apply ae;apply eE;apply bH;apply aa;exact aq;apply aa;exact aq;exact af;exact rfl;apply bR;exact rfl;exact rfl;apply ae;apply bu;apply ax;apply ah;exact ab rfl;exact iP;exact gC;apply aa;exact ab rfl;exact af;exact wX;exact ar;apply bR;exact rfl;exact rfl;apply ae;apply bu;apply ax;apply ah;exact ab rfl;exact iP;exact gC;apply aa;exact ab rfl;exact af;exact wY;exact ar;exact cg rfl;apply ae;apply bu;apply ax;apply ah;exact ab rfl;exact iP;exact wN;apply aa;exact aq;apply aa;apply aF;exact ab rfl;apply ah;apply ah;exact ab rfl;exact wH;exact ER;exact rfl;exact af;exact e1;exact ar
noncomputable def gP(st:Nat):Nat:=match Nat.beq st 183 with
 |true=>186
 |false=>match Nat.beq st 184 with
  |true=>187
  |false=>189
theorem HI(hst:st=183∨st=184∨st=185)(hS:SB wh.S m)(hm:m≤1000): ∃wh',cC (SB wh'.S (m+1)) (wh'.D=wh.D) (wh'.W.map (·.1)=(match Nat.beq st 185 with|true=>some (now+7)|false=>wh.W.map (·.1))) (ao fns (n+4) b 970 [.ref 8,.int now] (hp s c st a wh rc B F)=some (.none,hp s c (gP st) ⟨2,a.due,a.gap⟩ wh' rc B F)):=by
 rcases hst with rfl|rfl|rfl
 ·refine⟨wh,fun i hi=>Nat.le_succ_of_le (hS i hi),rfl,rfl,?_⟩
  apply aN (F:=qd) (loc:=[.ref 8,.int now]) rfl rfl rfl rfl;unfold qd;dsimp only
  apply ae;apply bu;apply ax;apply ah;exact ab rfl;exact fe;exact hJ;exact af;exact CC;apply ae;apply aC;apply au;apply ah;exact ab rfl;exact fX;exact aq;exact rfl;apply ae;apply bu;apply aB;apply aa;exact ab rfl;apply aa;exact aq;exact af;exact CX;exact ar;exact ar
 ·refine⟨wh,fun i hi=>Nat.le_succ_of_le (hS i hi),rfl,rfl,?_⟩
  apply aN (F:=qd) (loc:=[.ref 8,.int now]) rfl rfl rfl rfl;unfold qd;dsimp only
  apply ae;apply bu;apply ax;apply ah;exact ab rfl;exact fe;exact hJ;exact af;exact CC;apply ae;apply aC;apply au;apply ah;exact ab rfl;exact fX;exact aq;exact rfl;apply ae;apply bu;apply aB;apply aa;exact ab rfl;apply aa;exact aq;exact af;exact CY;exact ar;exact ar
 ·obtain⟨S,h1,e1⟩:=FD (n:=n) (b:=b) (s:=s) (c:=c) (st:=185) (a:=⟨2,a.due,a.gap⟩) (rc:=rc) (B:=B) (F:=F) (now:=now) hS hm
  refine⟨⟨wh.D,some (now+7,wh.g+1),true,S,wh.g+1⟩,h1,rfl,rfl,?_⟩
  apply aN (F:=qd) (loc:=[.ref 8,.int now]) rfl rfl rfl rfl;unfold qd;dsimp only
  apply ae;apply bu;apply ax;apply ah;exact ab rfl;exact fe;exact hJ;exact af;exact CC;apply ae;apply aK;apply au;apply ah;exact ab rfl;exact fX;exact aq;exact rfl;apply ae;apply bu;apply aB;apply aa;exact ab rfl;apply aa;exact ab rfl;exact af;exact e1;exact ar;exact ar
end
structure dv(F:bD)(g:Nat)(sq:Int)(hfin hu:Bool)(ur:Int)(pl:List UInt8):Prop where
 ex: ∃d,F.at g=some (.inst 702 d)∧F.at d=some (d6 90 80 sq 101 (jQ hfin hu) 9 ur [] pl)
theorem dv.le {F F':bD}{g:Nat}{sq:Int}{hfin hu:Bool}{ur:Int}{pl:List UInt8}(h:dv F g sq hfin hu ur pl)(l:t8 F F'):dv F' g sq hfin hu ur pl:=by
 obtain⟨d,h1,h2⟩:=h.ex
 exact⟨d,l _ _ rfl h1,l _ _ rfl h2⟩
section
variable{n:Nat}{b fl io hfin hu:Bool}{s:MO}{c:fw}{st:Nat}{a:aU}{wh:eg}{rc:eA}{B:ee}{F:bD}{H:HH}{σ:Nat→UInt8}{g d:Nat}{sq ur:Int}{pl:List UInt8}{k m:Nat}{now:Int}
theorem FE(h:dv F g sq hfin hu ur pl){x f:Nat}(hc:ck 702 x= .meth f)(hg: ∀f u p,dS (match d6 90 80 sq 101 f 9 u [] p with| .attrs fs=>fs|_=>[]) x=none):aX (hp s c st a wh rc B F) g x f:=by
 obtain⟨d,h1,h2⟩:=h.ex
 exact w2 h1 h2 hc (hg _ _ _)
theorem ij(h:dv F g sq hfin hu ur pl):aX (hp s c st a wh rc B F) g 82 685:=FE h rfl fun _ _ _=>rfl
theorem nR(h:dv F g sq hfin hu ur pl):aX (hp s c st a wh rc B F) g 104 692:=FE h rfl fun _ _ _=>rfl
theorem AK(h:dv F g sq hfin hu ur pl):aQ (hp s c st a wh rc B F) g 47 (.int sq):=by
 obtain⟨d,h1,h2⟩:=h.ex
 exact seg_at h1 h2 rfl rfl
theorem FF(h:dv F g sq hfin hu ur pl):aQ (hp s c st a wh rc B F) g 51 (.int ur):=by
 obtain⟨d,h1,h2⟩:=h.ex
 exact seg_at h1 h2 rfl rfl
theorem xu(h:dv F g sq hfin hu ur pl):aQ (hp s c st a wh rc B F) g 53 (.bytes pl):=by
 obtain⟨d,h1,h2⟩:=h.ex
 exact seg_at h1 h2 rfl rfl
theorem C0 (h:dv F g sq hfin hu ur pl):ao fns (n+1) b 685 [.ref g,.int 1] (hp s c st a wh rc B F)=some (.bool hfin,hp s c st a wh rc B F):=by
 obtain⟨d,h1,h2⟩:=h.ex
 exact AJ h1 h2
theorem FG(h:dv F g sq hfin hu ur pl):ao fns (n+1) b 685 [.ref g,.int 32] (hp s c st a wh rc B F)=some (.bool hu,hp s c st a wh rc B F):=by
 obtain⟨d,h1,h2⟩:=h.ex
 exact CW h1 h2
theorem C1 (h:dv F g sq hfin hu ur pl)(hl:Nat.ble pl.length 1000000=true):ao fns (n+2) b 692 [.ref g] (hp s c st a wh rc B F)=some (.int (bz pl.length hfin),hp s c st a wh rc B F):=by
 obtain⟨d,h1,h2⟩:=h.ex
 exact HG h1 h2 hl
noncomputable def dh(x:Bool)(a:aU):aU:=match x with
 |true=>⟨2,a.due,a.gap⟩
 |false=>a
theorem zO(hs:dv F g sq hfin hu ur pl)(hl:Nat.ble pl.length 1000000=true)(hst:st=186∨st=187∨st=189)(hS:SB wh.S m)(hm:m≤1000):
  ∃wh',cC (SB wh'.S (m+1)) (wh'.D=wh.D) (wh'.W.map (·.1)=(match Nat.beq st 189&&hfin with|true=>some (now+7)|false=>wh.W.map (·.1))) (ao fns (n+4) b 963 [.ref 8,.ref g,.int now] (hp s c st a wh rc B F)=some (.none,hp s c st (dh (decide (0<bz pl.length hfin)) a) wh' rc B F)):=by
 have e0:ao fns (n+3) b 748 [.str st] (hp s c st a wh rc B F)=some (.bool false,hp s c st a wh rc B F):=CZ.trans (by rcases hst with rfl|rfl|rfl<;>rfl)
 have e1:=C1 (n:=n+1) (b:=b) (s:=s) (c:=c) (st:=st) (a:=a) (wh:=wh) (rc:=rc) (B:=B) hs hl
 have s1:cU (ao fns (n+3)) b (match aR dz.body 1 with| .ite _ p _=>aR p 0|_=> .bad) [.ref 8,.ref g,.int now,.ref 45,.unb,.unb,.unb] (hp s c st a wh rc B F)=some (.next,[.ref 8,.ref g,.int now,.ref 45,.unb,.unb,.unb],hp s c st (dh (decide (0<bz pl.length hfin)) a) wh rc B F):=by
  cases h:decide (0<bz (pl.length:Int) hfin)with
  |true=>
   have z: ∀H,aI .gt (.int (bz pl.length hfin)) (.int 0) H=some true:=fun H=>congrArg some h
   unfold dz;dsimp only[aR]
   apply aK;apply au;apply ax;exact ab rfl;exact nR hs;exact af;exact e1;exact aq;exact z _;apply ae;apply bu;apply ax;apply ah;exact ab rfl;exact fe;exact hJ;exact af;exact CC;exact ar
  |false=>
   have z: ∀H,aI .gt (.int (bz pl.length hfin)) (.int 0) H=some false:=fun H=>congrArg some h
   unfold dz;dsimp only[aR]
   apply aC;apply au;apply ax;exact ab rfl;exact nR hs;exact af;exact e1;exact aq;exact z _;exact ar
 generalize dh (decide (0<bz (pl.length:Int) hfin)) a=a' at s1
 have e2:=C0 (n:=n+2) (b:=b) (s:=s) (c:=c) (st:=st) (a:=a') (wh:=wh) (rc:=rc) (B:=B) hs
 cases h:Nat.beq st 189 with
 |false=>
  have z: ∀H,aI .eq (.str st) (.str 189) H=some false:=fun H=>congrArg some h
  refine⟨wh,fun i hi=>Nat.le_succ_of_le (hS i hi),rfl,rfl,?_⟩
  apply aw (F:=dz) (loc:=[.ref 8,.ref g,.int now,.unb,.unb,.unb,.unb]) rfl rfl rfl rfl;unfold dz;dsimp only
  apply ae;apply aA;apply ah;exact ab rfl;exact lk;exact ph;apply bE (e:= .not _);apply bI;apply aB;apply aa;apply ah;exact ab rfl;exact fX;exact af;exact e0;apply ae;exact s1;apply ae
  apply aC
  apply bK;apply au;apply ah;exact ab rfl;exact fX;exact aq;exact z _;exact ar;apply aM;exact aq
 |true=>
  have z: ∀H,aI .eq (.str st) (.str 189) H=some true:=fun H=>congrArg some h
  cases hfin with
  |false=>
   refine⟨wh,fun i hi=>Nat.le_succ_of_le (hS i hi),rfl,rfl,?_⟩
   apply aw (F:=dz) (loc:=[.ref 8,.ref g,.int now,.unb,.unb,.unb,.unb]) rfl rfl rfl rfl;unfold dz;dsimp only
   apply ae;apply aA;apply ah;exact ab rfl;exact lk;exact ph;apply bE (e:= .not _);apply bI;apply aB;apply aa;apply ah;exact ab rfl;exact fX;exact af;exact e0;apply ae;exact s1;apply ae
   apply aC
   apply aZ;apply au;apply ah;exact ab rfl;exact fX;exact aq;exact z _;apply ax;exact ab rfl;exact ij hs;apply aa;exact aq;exact af;exact e2;exact ar;apply aM;exact aq
  |true=>
   have h0:st=189:=Nat.eq_of_beq_eq_true h
   obtain⟨S,k1,k2⟩:=FD (n:=n) (b:=b) (s:=s) (c:=c) (st:=st) (a:=a') (rc:=rc) (B:=B) (F:=F) (now:=now) hS hm
   rw[←h0]at k2
   refine⟨⟨wh.D,some (now+7,wh.g+1),true,S,wh.g+1⟩,k1,rfl,rfl,?_⟩
   apply aw (F:=dz) (loc:=[.ref 8,.ref g,.int now,.unb,.unb,.unb,.unb]) rfl rfl rfl rfl;unfold dz;dsimp only
   apply ae;apply aA;apply ah;exact ab rfl;exact lk;exact ph;apply bE (e:= .not _);apply bI;apply aB;apply aa;apply ah;exact ab rfl;exact fX;exact af;exact e0;apply ae;exact s1;apply ae
   apply aK
   apply aZ;apply au;apply ah;exact ab rfl;exact fX;exact aq;exact z _;apply ax;exact ab rfl;exact ij hs;apply aa;exact aq;exact af;exact e2;apply ae;apply bu;apply aB;apply aa;exact ab rfl;apply aa;exact ab rfl;exact af;exact k2;exact ar;apply aM;exact aq
end
section
variable{n:Nat}{b fl io hfin hu:Bool}{s:MO}{c:fw}{st:Nat}{a:aU}{wh:eg}{rc:eA}{B:ee}{F:bD}{H:HH}{σ:Nat→UInt8}{g d:Nat}{sq ur:Int}{pl:List UInt8}{k m:Nat}{now:Int}
 {nn n' bg W kk TE:Nat}{P P':jP}{ua fa:Option Int}{ry pr:Nat}{bs:List UInt8}{v4 v5 v6:MV}
noncomputable def AL(hu:Bool)(ua:Option Int)(rp p:Int):Option Int:=match hu with
 |true=>jl ua rp p
 |false=>ua
theorem FH(hR:256≤c.R)(hs:dv F g (num c.R bg) hfin hu ur pl)(hy:F.at rc.ry=some (.barr bs))(hl:Nat.ble bs.length 1000000=true)
  (h1:rc.nx - behind rc bs.length - (bg+ur)<128)(h2:(bg:Int)+ur - (rc.nx - behind rc bs.length)<128)(h3: ∀u,rc.ua=some u→u - (bg+ur)<128∧(bg:Int)+ur - u<128):
  cU (ao fns (n+8)) true (aR dz.body 2) [.ref 8,.ref g,.int now,.ref 45,.unb,.unb,.unb] (hp s c st a wh rc B F)=
   some (.next,[.ref 8,.ref g,.int now,.ref 45,.unb,.unb,.unb],hp s c st a wh {rc with ua:=AL hu rc.ua (rc.nx - behind rc bs.length) (bg+ur)} B F):=by
 have e1:=FG (n:=n+7) (b:=true) (s:=s) (c:=c) (st:=st) (a:=a) (wh:=wh) (rc:=rc) (B:=B) hs
 cases hu with
 |false=>
  unfold dz;dsimp only[aR]
  apply aC;apply ax;exact ab rfl;exact ij hs;apply aa;exact aq;exact af;exact e1;exact ar
 |true=>
  have e2:=Ff (n:=n+5) (b:=true) (s:=s) (st:=st) (a:=a) (wh:=wh) (B:=B) hR hy hl h1 h2 h3
  unfold dz;dsimp only[aR]
  apply aK;apply ax;exact ab rfl;exact ij hs;apply aa;exact aq;exact af;exact e1;apply ae;apply bu;apply ax;exact ab rfl;exact Cp;apply aa;apply aB;apply aa;apply ah;exact ab rfl;exact AK hs;apply aa;apply ah;exact ab rfl;exact FF hs;apply aa;apply ah;apply ah;exact ab rfl;exact wH;exact EP;exact af;exact pq hR;exact af;exact e2;exact ar
noncomputable def eF(x:Bool)(dl:Int)(a:aU)(io:Bool)(now:Int)(hh:Bool):aU:=match x with
 |true=>jj dl a io now hh
 |false=>a
theorem FI(hs:dv F g sq hfin hu ur pl)(hl:Nat.ble pl.length 1000000=true)(hp0:F.at rc.pr=some (.list (fx c.R σ P'))):
  ∃F',F.Le F'∧cU (ao fns (n+8)) true (aR dz.body 6) [.ref 8,.ref g,.int now,.ref 45,.bool false,v5,.bool io] (hp s c st a wh rc B F)=
   some (.next,[.ref 8,.ref g,.int now,.ref 45,.bool false,v5,.bool io],hp s c st (eF (decide (0<pl.length)) c.dl a io now P'.isSome) wh rc B F'):=by
 cases h:decide (0<pl.length)with
 |false=>
  have z: ∀H,aI .gt (.int (pl.length:Int)) (.int 0) H=some false:=fun H=>congrArg some (decide_eq_false (by have:=of_decide_eq_false h;exact yl this))
  refine⟨F,.refl,?_⟩
  unfold dz;dsimp only[aR]
  apply aC;apply au;apply aP;apply aa;apply ah;exact ab rfl;exact xu hs;exact af;exact bc hl;exact aq;exact z _;exact ar
 |true=>
  have z: ∀H,aI .gt (.int (pl.length:Int)) (.int 0) H=some true:=fun H=>congrArg some (decide_eq_true (by have:=of_decide_eq_true h;exact u1 this))
  have e1:=Fi (n:=n+6) (b:=true) (s:=s) (c:=c) (st:=st) (a:=a) (wh:=wh) (B:=B) hp0
  rw[show(!(fx c.R σ P').isEmpty)=P'.isSome by cases P'<;>rfl]at e1
  obtain⟨v,e2⟩:=IA (n:=n+6) (b:=true) (s:=s) (c:=c) (st:=st) (a:=a) (wh:=wh) (rc:=rc) (B:=B) (F:=F.app [.list []]) (io:=io) (hh:=P'.isSome) (now:=now)
  refine⟨F.app [.list []],le_app,?_⟩
  unfold dz;dsimp only[aR]
  apply aK;apply au;apply aP;apply aa;apply ah;exact ab rfl;exact xu hs;exact af;exact bc hl;exact aq;exact z _;apply ae;apply bu;apply ax;apply ah;exact ab rfl;exact fe;exact zj;apply aa;exact ab rfl;apply aa;exact ab rfl;apply aa;apply ax;exact ab rfl;exact zt;exact af;exact e1;exact af;exact e2;exact ar
theorem C2 (hs:dv F g sq hfin hu ur pl){f:Nat}:cU (ao fns (n+8)) true (aR dz.body 7) [.ref 8,.ref g,.int now,.ref 45,.bool false,.int (f:Int),.bool io] (hp s c st a wh rc B F)=
   some (.next,[.ref 8,.ref g,.int now,.ref 45,.bool false,.int (f:Int),.bool io],hp s c st (dh (decide (f=0)||hfin) a) wh rc B F):=by
 have e1:=C0 (n:=n+7) (b:=true) (s:=s) (c:=c) (st:=st) (a:=a) (wh:=wh) (rc:=rc) (B:=B) hs
 by_cases h:f=0
 ·rw[decide_eq_true h]
  have z: ∀H,aI .eq (.int (f:Int)) (.int 0) H=some true:=fun H=>congrArg some (decide_eq_true (by omega))
  unfold dz;dsimp only[aR]
  apply aK;apply fc;apply au;exact ab rfl;exact aq;exact z _;apply ae;apply bu;apply ax;apply ah;exact ab rfl;exact fe;exact hJ;exact af;exact CC;exact ar
 ·rw[decide_eq_false h]
  have z: ∀H,aI .eq (.int (f:Int)) (.int 0) H=some false:=fun H=>congrArg some (decide_eq_false (by omega))
  cases hfin with
  |true=>
   unfold dz;dsimp only[aR]
   apply aK;apply cf;apply au;exact ab rfl;exact aq;exact z _;apply ax;exact ab rfl;exact ij hs;apply aa;exact aq;exact af;exact e1;apply ae;apply bu;apply ax;apply ah;exact ab rfl;exact fe;exact hJ;exact af;exact CC;exact ar
  |false=>
   unfold dz;dsimp only[aR]
   apply aC;apply cf;apply au;exact ab rfl;exact aq;exact z _;apply ax;exact ab rfl;exact ij hs;apply aa;exact aq;exact af;exact e1;exact ar
theorem FJ(hst:st=183∨st=184∨st=185)(hS:SB wh.S m)(hm:m≤1000):
  ∃wh',cC (SB wh'.S (m+1)) (wh'.D=wh.D) (wh'.W.map (·.1)=(match rc.hf&&Nat.beq st 185 with|true=>some (now+7)|false=>wh.W.map (·.1))) (cU (ao fns (n+8)) true (aR dz.body 8) [.ref 8,.ref g,.int now,.ref 45,.bool false,v5,v6] (hp s c st a wh rc B F)=
    some (.next,[.ref 8,.ref g,.int now,.ref 45,.bool false,v5,v6],hp s c (match rc.hf with|true=>gP st|false=>st) (dh rc.hf a) wh' rc B F)):=by
 obtain⟨nx,te,fa,hf,ua,ry,pr⟩:=rc
 cases hf with
 |false=>
  refine⟨wh,fun i hi=>Nat.le_succ_of_le (hS i hi),rfl,rfl,?_⟩
  unfold dz;dsimp only[aR]
  apply aC;apply bK;apply ah;exact ab rfl;exact dQ;exact ar
 |true=>
  obtain⟨wh',k1,k2,k3,k4⟩:=HI (n:=n+4) (b:=true) (s:=s) (c:=c) (a:=a) (rc:=⟨nx,te,fa,true,ua,ry,pr⟩) (B:=B) (F:=F) (now:=now) hst hS hm
  refine⟨wh',k1,k2,k3,?_⟩
  unfold dz;dsimp only[aR]
  apply aK;apply aZ;apply ah;exact ab rfl;exact dQ;apply bI;exact ab rfl;apply ae;apply bu;apply aB;apply aa;exact ab rfl;apply aa;exact ab rfl;exact af;exact k4;exact ar
end
section
variable{n:Nat}{b fl io hfin hu:Bool}{s:MO}{c:fw}{st:Nat}{a:aU}{wh:eg}{rc:eA}{B:ee}{F:bD}{H:HH}{σ:Nat→UInt8}{g d:Nat}{sq ur:Int}{pl:List UInt8}{k m:Nat}{now:Int}
 {nn n' bg W kk TE:Nat}{P P':jP}{ua ua1 fa:Option Int}{ry pr:Nat}{bs:List UInt8}{v4 v5 v6:MV}
theorem rh(hst:st=183∨st=184∨st=185)(hs:dv F g sq false hu ur [])
  (e2:cU (ao fns (n+8)) true (aR dz.body 2) [.ref 8,.ref g,.int now,.ref 45,.unb,.unb,.unb] (hp s c st a wh rc B F)=some (.next,[.ref 8,.ref g,.int now,.ref 45,.unb,.unb,.unb],hp s c st a wh {rc with ua:=ua1} B F)):
  ao fns (n+9) true 963 [.ref 8,.ref g,.int now] (hp s c st a wh rc B F)=some (.none,hp s c st a wh {rc with ua:=ua1} B F):=by
 have e0:ao fns (n+8) true 748 [.str st] (hp s c st a wh rc B F)=some (.bool true,hp s c st a wh rc B F):=CZ.trans (by rcases hst with rfl|rfl|rfl<;>rfl)
 have e1:=C1 (n:=n+6) (b:=true) (s:=s) (c:=c) (st:=st) (a:=a) (wh:=wh) (rc:={rc with ua:=ua1}) (B:=B) hs rfl
 apply aw (F:=dz) (loc:=[.ref 8,.ref g,.int now,.unb,.unb,.unb,.unb]) rfl rfl rfl rfl;unfold dz;dsimp only
 apply ae;apply aA;apply ah;exact ab rfl;exact lk;exact ph;apply ae
 apply aC
 apply df;apply aB;apply aa;apply ah;exact ab rfl;exact fX;exact af;exact e0;exact ar;apply ae;exact e2;apply bE (e:= .cmp _ _ _);apply au;apply ax;exact ab rfl;exact nR hs;exact af;exact e1;exact aq;exact rfl;apply aM;exact aq
theorem xw(hst:st=183∨st=184∨st=185)(hR:256≤c.R)(hW:W≤100)(hnW:nn≤W)(hP:fW nn W P)(hb:bg≤nn+2)(hkW:bg+k≤W)(hf:hfin=true→bg+k=W)(hfa:fa=none∨fa=some (W:Int))(hTE:TE≤100)(hi:pT bg k TE kk)(hbs:bs.length≤1000)
  (hp0:F.at pr=some (.list (fx c.R σ P)))(hy:F.at ry=some (.barr bs))(hne:0<k∨hfin=true)(hs:dv F g (num c.R bg) hfin hu ur (sl σ bg k))(hS:SB wh.S m)(hm:m≤1000)
  (e2:cU (ao fns (n+8)) true (aR dz.body 2) [.ref 8,.ref g,.int now,.ref 45,.unb,.unb,.unb] (hp s c st a wh ⟨nn,TE,fa,false,ua,ry,pr⟩ B F)=
   some (.next,[.ref 8,.ref g,.int now,.ref 45,.unb,.unb,.unb],hp s c st a wh ⟨nn,TE,fa,false,ua1,ry,pr⟩ B F)):
  zZ fun n' P' F' pr' wh'=>xW (pX nn W bg kk P n' P') (F'.at ry=some (.barr (bs++sl σ nn (n' - nn)))) (F'.at pr'=some (.list (fx c.R σ P'))) (SB wh'.S (m+1)) (wh'.D=wh.D) (wh'.W.map (·.1)=(match cZ (bj fa hfin kk k W) n' W&&Nat.beq st 185 with|true=>some (now+7)|false=>wh.W.map (·.1))) (ao fns (n+9) true 963 [.ref 8,.ref g,.int now] (hp s c st a wh ⟨nn,TE,fa,false,ua,ry,pr⟩ B F)=
    some (.none,hp s c (match cZ (bj fa hfin kk k W) n' W with|true=>gP st|false=>st)
     (dh (cZ (bj fa hfin kk k W) n' W) (dh (decide (n' - nn=0)||hfin) (eF (decide (0<k)) c.dl a (decide ((bg:Int)≤nn)) now P'.isSome))) wh'
     ⟨bz n' (cZ (bj fa hfin kk k W) n' W),TE,bj fa hfin kk k W,cZ (bj fa hfin kk k W) n' W,ua1,ry,pr'⟩ B F')):=by
 have hl:=bM (σ:=σ) (p:=bg) (n:=k) (Nat.le_trans (Nat.le_add_left k bg) (Nat.le_trans hkW (Nat.le_trans hW (by decide))))
 have e0:ao fns (n+8) true 748 [.str st] (hp s c st a wh ⟨nn,TE,fa,false,ua,ry,pr⟩ B F)=some (.bool true,hp s c st a wh ⟨nn,TE,fa,false,ua,ry,pr⟩ B F):=CZ.trans (by rcases hst with rfl|rfl|rfl<;>rfl)
 have e1:=C1 (n:=n+6) (b:=true) (s:=s) (c:=c) (st:=st) (a:=a) (wh:=wh) (rc:=⟨nn,TE,fa,false,ua1,ry,pr⟩) (B:=B) hs hl
 have e1':=C0 (n:=n+7) (b:=true) (s:=s) (c:=c) (st:=st) (a:=a) (wh:=wh) (rc:=⟨nn,TE,fa,false,ua1,ry,pr⟩) (B:=B) hs
 rw[bq]at e1
 obtain⟨n',P',F1,pr',k1,k2,k3,k4,e3⟩:=FA (n:=n+1) (s:=s) (st:=st) (a:=a) (wh:=wh) (B:=B) (ua:=ua1) hR hW hnW hP hb hkW hf hfa hTE hi hbs hp0 hy
 obtain⟨F2,l2,e4⟩:=FI (n:=n) (s:=s) (c:=c) (st:=st) (a:=a) (wh:=wh) (rc:=⟨bz n' (cZ (bj fa hfin kk k W) n' W),TE,bj fa hfin kk k W,cZ (bj fa hfin kk k W) n' W,ua1,ry,pr'⟩) (B:=B) (io:=decide ((bg:Int)≤nn)) (now:=now) (v5:= .int ((n' - nn:Nat):Int)) (hs.le k2) hl k4
 rw[bq]at e4
 have e5:=C2 (n:=n) (s:=s) (c:=c) (st:=st) (a:=eF (decide (0<k)) c.dl a (decide ((bg:Int)≤nn)) now P'.isSome) (wh:=wh) (rc:=⟨bz n' (cZ (bj fa hfin kk k W) n' W),TE,bj fa hfin kk k W,cZ (bj fa hfin kk k W) n' W,ua1,ry,pr'⟩) (B:=B) (io:=decide ((bg:Int)≤nn)) (now:=now) (f:=n' - nn) ((hs.le k2).le l2.ia)
 obtain⟨wh',s1,s2,s3,e6⟩:=FJ (n:=n) (s:=s) (c:=c) (a:=dh (decide (n' - nn=0)||hfin) (eF (decide (0<k)) c.dl a (decide ((bg:Int)≤nn)) now P'.isSome)) (rc:=⟨bz n' (cZ (bj fa hfin kk k W) n' W),TE,bj fa hfin kk k W,cZ (bj fa hfin kk k W) n' W,ua1,ry,pr'⟩) (B:=B) (F:=F2) (g:=g) (now:=now)
  (v5:= .int ((n' - nn:Nat):Int)) (v6:= .bool (decide ((bg:Int)≤nn))) hst hS hm
 refine⟨n',P',F2,pr',wh',k1,l2 _ _ k3,l2 _ _ k4,s1,s2,s3,?_⟩
 have z: ∀H,aI .eq (.int (bz (k:Int) hfin)) (.int 0) H=some false:=fun H=>congrArg some (decide_eq_false (by
  unfold bz
  cases hfin with
  |true=>dsimp only;exact GY
  |false=>rcases hne with h|h;dsimp only;exact GX h;cases h))
 apply aN (F:=dz) (loc:=[.ref 8,.ref g,.int now,.unb,.unb,.unb,.unb]) rfl rfl rfl rfl;unfold dz;dsimp only
 apply ae;apply aA;apply ah;exact ab rfl;exact lk;exact ph;apply ae
 apply aC
 apply df;apply aB;apply aa;apply ah;exact ab rfl;exact fX;exact af;exact e0;exact ar;apply ae;exact e2;apply ae
 apply aC
 apply au;apply ax;exact ab rfl;exact nR hs;exact af;exact e1;exact aq;exact z _;exact ar;apply ae;apply aA;apply ah;exact ab rfl;exact dQ;exact ik;apply ae;apply cN;apply ax;exact ab rfl;exact Cq;apply aa;apply ah;exact ab rfl;exact AK hs;apply aa;apply ah;exact ab rfl;exact xu hs;apply aa;apply ax;exact ab rfl;exact ij hs;apply aa;exact aq;exact af;exact e1';exact af;exact e3;apply aS;exact t6;apply aS;exact xU;exact bX;apply ae;exact e4;apply ae;exact e5;apply ae;exact e6;exact ar
end
section
variable{n:Nat}{b fl io hh:Bool}{s:MO}{c:fw}{st:Nat}{a:aU}{wh:eg}{rc:eA}{B:ee}{F:bD}{H:HH}{now x:Int}
theorem sk(hR:c.R≠0):ao fns (n+1) b 1242 [.ref 51,.int x] (hp s c st a wh rc B F)=some (.int (num c.R x),hp s c st a wh rc B F):=by
 unfold num
 apply aw (F:=uC) (loc:=[.ref 51,.int x]) rfl rfl rfl rfl;unfold uC;dsimp only
 apply aM;apply aF;apply aF;apply aF;apply az;exact ab rfl;exact aq;exact b6;exact aq;exact rfl;exact ab rfl;exact rfl;apply az;exact ab rfl;exact aq;exact b6;exact dO hR
theorem AM:ao fns (n+1) b 1249 [.ref 51] (hp s c st a wh rc B F)=some (.int (bz B.nx B.over),hp s c st a wh rc B F):=by
 have z: ∀H,cI .add (.int B.nx) (.int (if B.over then 1 else 0)) H=some (.int (bz B.nx B.over),H):=fun H=>by
  unfold bz
  cases B.over with
  |true=>rfl
  |false=>show some (MV.int (B.nx+0),H)=_;rw[Int.add_zero]
 apply aw (F:=uD) (loc:=[.ref 51]) rfl rfl rfl rfl;unfold uD;dsimp only
 apply aM;apply aF;apply az;exact ab rfl;exact aq;exact pC;apply aP;apply aa;apply az;exact ab rfl;exact aq;exact wR;exact af;exact rfl;exact z _
theorem FK:ao fns (n+1) b 1256 [.ref 51,.bool io,.bool hh,.int now] (hp s c st a wh rc B F)=some (.none,hp s c st a wh rc {B with a:=jj c.dl B.a io now hh} F):=by
 obtain⟨hv,nx,fin,over,ed,rd,⟨w,due,gap⟩,bs,wait,urg⟩:=B
 unfold jj
 have z: ∀H,aI .gt (.int (w+1)) (.int 1) H=some (decide (2≤w+1)):=fun H=>congrArg some (by rw[decide_eq_decide];omega)
 have e0:bo (ao fns n) b (.or (.not (.l 1)) (.or (.l 4) (.or (.l 2) (.or (.cmp .le (.sub (.l 0) (.c (.str 11))) (.c (.int 0))) (.cmp .gt (.sub (.l 0) (.c (.str 12))) (.c (.int 1))))))) [.ref 51,.bool io,.bool hh,.int now,.bool gap] (hp s c st a wh rc ⟨hv,nx,fin,over,ed,rd,⟨w+1,due,hh|| !io⟩,bs,wait,urg⟩ F)=
   some (.bool (gv c.dl ⟨w,due,gap⟩ io hh),hp s c st a wh rc ⟨hv,nx,fin,over,ed,rd,⟨w+1,due,hh|| !io⟩,bs,wait,urg⟩ F):=by
  unfold gv
  apply ez;apply eD;exact ab rfl;apply ez;exact ab rfl;apply ez;exact ab rfl;apply ez;apply au;apply az;exact ab rfl;exact aq;exact H8;exact aq;exact rfl;apply au;apply az;exact ab rfl;exact aq;exact zA;exact aq;exact z _
 cases h:gv c.dl ⟨w,due,gap⟩ io hh with
 |true=>
  rw[h]at e0
  apply aN (F:=kf) (loc:=[.ref 51,.bool io,.bool hh,.int now,.unb]) rfl rfl rfl rfl;unfold kf;dsimp only
  apply ae;apply aA;apply az;exact ab rfl;exact aq;exact Cz;exact ik;apply ae;apply aA;apply ez;exact ab rfl;apply eD;exact ab rfl;apply bp;exact ab rfl;exact aq;exact CB;apply ae;apply aA;apply aF;apply az;exact ab rfl;exact aq;exact zA;exact aq;exact rfl;apply bp;exact ab rfl;exact aq;exact tO;apply ae
  apply aK
  exact e0;apply ae;apply aA;exact aq;apply bp;exact ab rfl;exact aq;exact tO;exact ar;exact ar
 |false=>
  rw[h]at e0
  cases due with
  |none=>
   apply aN (F:=kf) (loc:=[.ref 51,.bool io,.bool hh,.int now,.unb]) rfl rfl rfl rfl;unfold kf;dsimp only
   apply ae;apply aA;apply az;exact ab rfl;exact aq;exact Cz;exact ik;apply ae;apply aA;apply ez;exact ab rfl;apply eD;exact ab rfl;apply bp;exact ab rfl;exact aq;exact CB;apply ae;apply aA;apply aF;apply az;exact ab rfl;exact aq;exact zA;exact aq;exact rfl;apply bp;exact ab rfl;exact aq;exact tO;apply ae
   apply aC
   exact e0;apply ae;apply aK;apply au;apply az;exact ab rfl;exact aq;exact Ar;exact aq;exact rfl;apply ae;apply aA;apply aF;exact ab rfl;apply az;exact ab rfl;exact aq;exact H8;exact rfl;apply bp;exact ab rfl;exact aq;exact Iw;exact ar;exact ar;exact ar
  |some d=>
   apply aN (F:=kf) (loc:=[.ref 51,.bool io,.bool hh,.int now,.unb]) rfl rfl rfl rfl;unfold kf;dsimp only
   apply ae;apply aA;apply az;exact ab rfl;exact aq;exact Cz;exact ik;apply ae;apply aA;apply ez;exact ab rfl;apply eD;exact ab rfl;apply bp;exact ab rfl;exact aq;exact CB;apply ae;apply aA;apply aF;apply az;exact ab rfl;exact aq;exact zA;exact aq;exact rfl;apply bp;exact ab rfl;exact aq;exact tO;apply ae
   apply aC
   exact e0;apply ae;apply aC;apply au;apply az;exact ab rfl;exact aq;exact Ar;exact aq;exact rfl;exact ar;exact ar;exact ar
noncomputable def jq(B:ee):Bool:= !B.over&&decide (4≤B.rd+16 - B.ed)
noncomputable def xy(B:ee):Int:=match jq B with
 |true=>B.rd+16
 |false=>B.ed
noncomputable def C3 (R:Int)(B:ee):MV:= .tup [.int 80,.int 90,.int 101,.int (num R (bz B.nx B.over)),.int 16,.int (max 0 (xy B - bz B.nx B.over)),.int 0,.bytes [],.bytes []]
theorem xA(h:hK B.a now=false):ao fns (n+2) b 1268 [.ref 51,.int now] (hp s c st a wh rc B F)=some (.ref F.next,hp s c st a wh rc B (F.app [.list []])):=by
 obtain⟨hv,nx,fin,over,ed,rd,⟨w,due,gap⟩,bs,wait,urg⟩:=B
 obtain⟨h1,h2⟩:=Bool.or_eq_false_iff.mp h
 have z1: ∀H,aI .lt (.int w) (.int 2) H=some true:=fun H=>congrArg some (decide_eq_true (by have:=of_decide_eq_false h1;dsimp only at this;exact Int.not_le.mp this))
 cases due with
 |none=>
  apply aw (F:=iw) (loc:=[.ref 51,.int now,.unb]) rfl rfl rfl rfl;unfold iw;dsimp only
  apply bE;apply aZ;apply au;apply az;exact ab rfl;exact aq;exact zA;exact aq;exact z1 _;apply fc;apply au;apply az;exact ab rfl;exact aq;exact Ar;exact aq;exact rfl;apply aM;apply bl;exact af;exact rfl
 |some d=>
  have z2: ∀H,aI .gt (.int d) (.int now) H=some true:=fun H=>congrArg some (decide_eq_true (by have:=of_decide_eq_false h2;exact Int.not_le.mp this))
  apply aw (F:=iw) (loc:=[.ref 51,.int now,.unb]) rfl rfl rfl rfl;unfold iw;dsimp only
  apply bE;apply aZ;apply au;apply az;exact ab rfl;exact aq;exact zA;exact aq;exact z1 _;apply cf;apply au;apply az;exact ab rfl;exact aq;exact Ar;exact aq;exact rfl;apply au;apply az;exact ab rfl;exact aq;exact Ar;exact ab rfl;exact z2 _;apply aM;apply bl;exact af;exact rfl
theorem tU(hR:c.R≠0)(h:hK B.a now=true):ao fns (n+2) b 1268 [.ref 51,.int now] (hp s c st a wh rc B F)=some (.ref F.next,hp s c st a wh rc {B with a:=⟨0,none,B.a.gap⟩,ed:=xy B} (F.app [.list [C3 c.R B]])):=by
 obtain⟨hv,nx,fin,over,ed,rd,⟨w,due,gap⟩,bs,wait,urg⟩:=B
 have e0:bo (ao fns (n+1)) b (.and (.cmp .lt (.sub (.l 0) (.c (.str 12))) (.c (.int 2))) (.or (.cmp .isn (.sub (.l 0) (.c (.str 13))) (.c .none)) (.cmp .gt (.sub (.l 0) (.c (.str 13))) (.l 1)))) [.ref 51,.int now,.unb] (hp s c st a wh rc ⟨hv,nx,fin,over,ed,rd,⟨w,due,gap⟩,bs,wait,urg⟩ F)=
   some (.bool false,hp s c st a wh rc ⟨hv,nx,fin,over,ed,rd,⟨w,due,gap⟩,bs,wait,urg⟩ F):=by
  rcases Bool.or_eq_true_iff.mp h with h1|h1
  ·have z1: ∀H,aI .lt (.int w) (.int 2) H=some false:=fun H=>congrArg some (decide_eq_false (by have:=of_decide_eq_true h1;dsimp only at this;exact Int.not_lt.mpr this))
   apply bK;apply au;apply az;exact ab rfl;exact aq;exact zA;exact aq;exact z1 _
  ·cases due with
   |none=>cases h1
   |some d=>
    have z2: ∀H,aI .gt (.int d) (.int now) H=some false:=fun H=>congrArg some (decide_eq_false (by have:=of_decide_eq_true h1;exact Int.not_lt.mpr this))
    by_cases hw:w<2
    ·have z1: ∀H,aI .lt (.int w) (.int 2) H=some true:=fun H=>congrArg some (decide_eq_true hw)
     apply aZ;apply au;apply az;exact ab rfl;exact aq;exact zA;exact aq;exact z1 _;apply cf;apply au;apply az;exact ab rfl;exact aq;exact Ar;exact aq;exact rfl;apply au;apply az;exact ab rfl;exact aq;exact Ar;exact ab rfl;exact z2 _
    ·have z1: ∀H,aI .lt (.int w) (.int 2) H=some false:=fun H=>congrArg some (decide_eq_false hw)
     apply bK;apply au;apply az;exact ab rfl;exact aq;exact zA;exact aq;exact z1 _
 have e1: ∀B F,ao fns (n+1) b 1249 [.ref 51] (hp s c st a wh rc B F)=some (.int (bz B.nx B.over),hp s c st a wh rc B F):=fun B F=>AM
 have mx: ∀H (x:Int),cu b .max [.int 0,.int x] H=some (.int (max 0 x),H):=fun H x=>by
  show some (MV.int (if(0:Int)<x then x else 0),H)=_
  by_cases h:0<x
  ·rw[if_pos h,Int.max_eq_right (Int.le_of_lt h)]
  ·rw[if_neg h,Int.max_eq_left (Int.not_lt.mp h)]
 unfold C3 xy
 cases ht:jq ⟨hv,nx,fin,over,ed,rd,⟨w,due,gap⟩,bs,wait,urg⟩with
 |true=>
  obtain⟨k1,k2⟩:=Bool.and_eq_true_iff.mp ht
  have z3: ∀H,aI .ge (.int (rd+16 - ed)) (.int 4) H=some true:=fun H=>congrArg some k2
  obtain rfl:over=false:=by cases over with|false=>rfl|true=>cases k1
  apply aw (F:=iw) (loc:=[.ref 51,.int now,.unb]) rfl rfl rfl rfl;unfold iw;dsimp only
  apply ae
  apply aC
  exact e0;exact ar;apply ae;apply cN;apply bH;apply aa;exact aq;apply aa;exact aq;exact af;exact rfl;apply aS;apply bp;exact ab rfl;exact aq;exact tO;apply aS;apply bp;exact ab rfl;exact aq;exact EZ;exact bX;apply ae
  apply aK
  apply aZ;apply bI;apply az;exact ab rfl;exact aq;exact wR;apply au;apply aF;apply aF;apply az;exact ab rfl;exact aq;exact t7;exact aq;exact rfl;apply az;exact ab rfl;exact aq;exact wU;exact rfl;exact aq;exact z3 _;apply ae;apply aA;apply aF;apply az;exact ab rfl;exact aq;exact t7;exact aq;exact rfl;apply bp;exact ab rfl;exact aq;exact Hm;exact ar;apply ae;apply aA;apply aP;apply aa;exact aq;apply aa;apply aF;apply az;exact ab rfl;exact aq;exact wU;apply aB;apply aa;exact ab rfl;exact af;exact e1 _ _;exact rfl;exact af;exact mx _ _;exact nD;apply aM;apply bl;apply aa;apply bH;apply aa;exact aq;apply aa;exact aq;apply aa;exact aq;apply aa;apply aB;apply aa;exact ab rfl;apply aa;apply aB;apply aa;exact ab rfl;exact af;exact e1 _ _;exact af;exact sk hR;apply aa;exact aq;apply aa;exact ab rfl;apply aa;exact aq;apply aa;exact aq;apply aa;exact aq;exact af;exact rfl;exact af;exact rfl
 |false=>
  have e3: ∀B',B'.over=over→B'.rd=rd→B'.ed=ed→bo (ao fns (n+1)) b (.and (.not (.sub (.l 0) (.c (.str 202)))) (.cmp .ge (.bin .sub (.bin .add (.sub (.l 0) (.c (.str 92))) (.c (.int 16))) (.sub (.l 0) (.c (.str 203)))) (.c (.int 4)))) [.ref 51,.int now,.unb] (hp s c st a wh rc B' F)=
    some (.bool false,hp s c st a wh rc B' F):=fun B' q1 q2 q3=>by
   obtain⟨hv',nx',fin',over',ed',rd',a',bs',wait',urg'⟩:=B'
   dsimp only at q1 q2 q3
   subst q1 q2 q3
   cases over' with
   |true=>apply bK;apply df;apply az;exact ab rfl;exact aq;exact wR
   |false=>
    have z3: ∀H,aI .ge (.int (rd'+16 - ed')) (.int 4) H=some false:=fun H=>congrArg some ht
    apply aZ;apply bI;apply az;exact ab rfl;exact aq;exact wR;apply au;apply aF;apply aF;apply az;exact ab rfl;exact aq;exact t7;exact aq;exact rfl;apply az;exact ab rfl;exact aq;exact wU;exact rfl;exact aq;exact z3 _
  apply aw (F:=iw) (loc:=[.ref 51,.int now,.unb]) rfl rfl rfl rfl;unfold iw;dsimp only
  apply ae
  apply aC
  exact e0;exact ar;apply ae;apply cN;apply bH;apply aa;exact aq;apply aa;exact aq;exact af;exact rfl;apply aS;apply bp;exact ab rfl;exact aq;exact tO;apply aS;apply bp;exact ab rfl;exact aq;exact EZ;exact bX;apply ae
  apply aC
  exact e3 _ rfl rfl rfl;exact ar;apply ae;apply aA;apply aP;apply aa;exact aq;apply aa;apply aF;apply az;exact ab rfl;exact aq;exact wU;apply aB;apply aa;exact ab rfl;exact af;exact e1 _ _;exact rfl;exact af;exact mx _ _;exact nD;apply aM;apply bl;apply aa;apply bH;apply aa;exact aq;apply aa;exact aq;apply aa;exact aq;apply aa;apply aB;apply aa;exact ab rfl;apply aa;apply aB;apply aa;exact ab rfl;exact af;exact e1 _ _;exact af;exact sk hR;apply aa;exact aq;apply aa;exact ab rfl;apply aa;exact aq;apply aa;exact aq;apply aa;exact aq;exact af;exact rfl;exact af;exact rfl
end
noncomputable def Upd(y:Nat)(F F':bD):Prop:= ∀i,y≠i→F'.at i=F.at i
noncomputable def so:Nat→Nat→List MV
 |_,0=>[]
 |p,n+1=> .int (p:Int)::so (p+1) n
noncomputable def fh(L:List Nat):List MV:=L.map fun(x:Nat)=>MV.int (x:Int)
theorem su: ∀{n p i:Nat},(so p n)[i]? =match decide (i<n)with
  |true=>some (.int ((p:Int)+i))
  |false=>none
 |0,_,i=>by rw[decide_eq_false (Nat.not_lt_zero i)];rfl
 |n+1,p,0=>by rw[decide_eq_true (Nat.succ_pos n)];show some (MV.int (p:Int))=_;rw[show(p:Int)+((0:Nat):Int)=p from Int.add_zero _]
 |n+1,p,i+1=>by
  show(so (p+1) n)[i]? =_
  rw[su,show decide (i+1<n+1)=decide (i<n) by rw[decide_eq_decide];exact Nat.add_lt_add_iff_right,show((p+1:Nat):Int)+i=(p:Int)+((i+1:Nat):Int)from GZ]
theorem sv(y:Nat): ∀L:List Nat,gS (fh L) (.int (y:Int))=some (decide (y∈L))
 |[]=>rfl
 |x::r=>by
  show(match gS (fh r) (.int (y:Int))with|some b=>some (decide ((x:Int)=y)||b)|none=>none)=_
  rw[sv y r]
  show some (decide ((x:Int)=y)||decide (y∈r))=_
  congr 1
  rw[Bool.eq_iff_iff,Bool.or_eq_true,decide_eq_true_eq,decide_eq_true_eq,decide_eq_true_eq,List.mem_cons]
  constructor
  ·intro h;rcases h with h|h
   ·exact .inl (by omega)
   ·exact .inr h
  ·intro h;rcases h with h|h
   ·exact .inl (mY (Eq.symm h))
   ·exact .inr h
section
variable{n:Nat}{b fl io hh:Bool}{s:MO}{c:fw}{st:Nat}{a:aU}{wh:eg}{rc:eA}{B:ee}{F:bD}{H:HH}{now x:Int}
theorem pY{test elt:MV→HH→Option (MV×HH)}{src:MV}{acc:Nat}{All:List MV}{τ:MV→Bool}{F0:bD}(hsrc: ∀F',Upd acc F0 F'→ ∀i,itemAt (hp s c st a wh rc B F') src i=some All[i]?)
  (ht: ∀x∈All,∀F',test x (hp s c st a wh rc B F')=some (.bool (τ x),hp s c st a wh rc B F'))(he: ∀x∈All,∀F',elt x (hp s c st a wh rc B F')=some (x,hp s c st a wh rc B F'))(k:Nat):
  ∀(L:List MV)(j:Nat)(done:List MV)(F:bD),Upd acc F0 F→F.at acc=some (.list done)→done.length+L.length<1000→(∀i,All[j+i]? =L[i]?)→L.length<k→
   ∃F',bx (Upd acc F0 F') (F'.at acc=some (.list (done++L.filter τ))) (compLoop test elt src acc k j (hp s c st a wh rc B F)=some (hp s c st a wh rc B F')):=by
 induction k with
 |zero=>intro L j done F _ _ _ _ h;cases h
 |succ k ih=>
  intro L j done F h1 h2 h3 h4 h5
  have i0:=(hsrc F h1 j).trans (congrArg some (h4 0))
  cases L with
  |nil=>exact⟨F,h1,by rw[h2];show _=some (MO.list (done++[]));rw[List.append_nil],nF i0⟩
  |cons x r=>
   have hx:x∈All:=List.mem_of_getElem? (h4 0)
   have h4': ∀i,All[j+1+i]? =r[i]? :=fun i=>by rw[Nat.add_assoc,Nat.add_comm 1 i];exact h4 (i+1)
   cases hτ:τ x with
   |true=>
    have e1:=ht x hx F
    rw[hτ]at e1
    have h2':=aW (o':= .list (done++[x])) h2
    obtain⟨F',k1,k2,k3⟩:=ih r (j+1) (done++[x]) (F.set acc (.list (done++[x]))) (fun i hi=>(bf h2 hi).trans (h1 i hi)) h2' (by rw[List.length_append,Nat.add_assoc];show done.length+(1+r.length)<1000;rw[Nat.add_comm 1];exact h3) h4' (Nat.lt_of_succ_lt_succ h5)
    refine⟨F',k1,by rw[k2,List.filter_cons_of_pos hτ,List.append_assoc];rfl,EN i0 e1 (he x hx F) (dR h2 (Nat.ble_eq_true_of_le ?_)) k3⟩
    have:(x::r).length=r.length+1:=rfl
    exact ym h3
   |false=>
    have e1:=ht x hx F
    rw[hτ]at e1
    obtain⟨F',k1,k2,k3⟩:=ih r (j+1) done F h1 h2 (Nat.lt_of_succ_lt h3) h4' (Nat.lt_of_succ_lt_succ h5)
    refine⟨F',k1,by rw[k2,List.filter_cons_of_neg (by rw[hτ];decide)],Hi i0 e1 k3⟩
end
section
variable{n:Nat}{b fl io hh hfin:Bool}{s:MO}{c:fw}{st:Nat}{a:aU}{wh:eg}{rc:eA}{B:ee}{F:bD}{H:HH}{now x:Int}{σ:Nat→UInt8}{bg k kk nn n' W:Nat}{uo:Option Int}{v6 v7 v8:MV}
theorem lA{i:Nat}{xs:List MV}{v:MV}{q:Bool}(h:F.at i=some (.list xs))(hm:gS xs v=some q):aI .notin v (.ref i) (hp s c st a wh rc B F)=some (!q):=by
 have e:AX (hp s c st a wh rc B F) v (.ref i)=some q:=by
  unfold AX
  dsimp only
  rw[dg h]
  exact hm
 exact g7 e
theorem xB:decide (0<bz (k:Int) hfin)=(!decide (k=0)||hfin):=by
 cases hfin with
 |true=>
  rw[Bool.or_true]
  exact decide_eq_true (show(0:Int)<k+1 from Ad)
 |false=>
  rw[Bool.or_false,Bool.eq_iff_iff,Bool.not_eq_true',decide_eq_false_iff_not,decide_eq_true_eq]
  show(0:Int)<k↔_
  omega
theorem HJ(hk:k≤1000)(hst:B.st=186∨B.st=187∨B.st=189): ∃F',F.Le F'∧
  ao fns (n+1) b 1261 [.ref 51,.int bg,.bytes (sl σ bg k),.bool hfin,bS uo,.int now] (hp s c st a wh rc B F)=
   some (.none,hp s c st a wh rc {B with a:=dh (decide (0<bz k hfin)) B.a,wait:=match Nat.beq B.st 189&&hfin with|true=>some (now+7)|false=>B.wait} F'):=by
 obtain⟨hv,nx,fin,over,ed,rd,⟨w,due,gap⟩,bs,wait,urg⟩:=B
 refine⟨F.app [.list [.str 183,.str 184,.str 185]],le_app,?_⟩
 have hm:gS [.str 183,.str 184,.str 185] (.str bs)=some false:=by rcases hst with h|h|h<;>(dsimp only at h;rw[h];rfl)
 have e0:aI .notin (.str bs) (.ref F.next) (hp s c st a wh rc ⟨hv,nx,fin,over,ed,rd,⟨w,due,gap⟩,bs,wait,urg⟩ (F.app [.list [.str 183,.str 184,.str 185]]))=some true:=lA aH hm
 have z0: ∀H,bo (ao fns n) b (.or (.cmp .ne (.l 2) (.c (.bytes []))) (.l 3)) [.ref 51,.int bg,.bytes (sl σ bg k),.bool hfin,bS uo,.int now,.unb,.unb,.unb] H=some (.bool (decide (0<bz k hfin)),H):=fun H=>by
  refine(ez (c:= !decide (sl σ bg k=[])) (d:=hfin) (au (ab rfl) aq rfl) (ab rfl)).trans ?_
  congr 3
  rw[w6,xB]
 have z1: ∀B' F',B'.st=bs→bo (ao fns n) b (.and (.cmp .eq (.sub (.l 0) (.c (.str 5))) (.c (.str 189))) (.l 3)) [.ref 51,.int bg,.bytes (sl σ bg k),.bool hfin,bS uo,.int now,.unb,.unb,.unb] (hp s c st a wh rc B' F')=some (.bool (Nat.beq bs 189&&hfin),hp s c st a wh rc B' F'):=fun B' F' hB=>by
  subst hB
  exact wz (au (az (ab rfl) aq b5) aq rfl) (ab rfl)
 have gu:bU [bS uo] 0=some (bS uo):=by cases uo<;>rfl
 unfold dh
 dsimp only
 cases h1:decide (0<bz (k:Int) hfin)with
 |true=>
  cases h2:Nat.beq bs 189&&hfin with
  |true=>
   simp only[h1]at z0
   simp only[h2]at z1
   apply aw (F:=bA) (loc:=[.ref 51,.int bg,.bytes (sl σ bg k),.bool hfin,bS uo,.int now,.unb,.unb,.unb]) rfl rfl rfl rfl;unfold bA;dsimp only
   apply bE (e:= .cmp _ _ _);apply au;apply az;exact ab rfl;exact aq;exact b5;apply bl;apply aa;exact aq;apply aa;exact aq;apply aa;exact aq;exact af;exact rfl;exact e0;apply ae
   apply aK
   exact z0 _;apply ae;apply aA;exact aq;apply bp;exact ab rfl;exact aq;exact tO;exact ar;apply ae
   apply aK
   exact z1 _ _ rfl;apply ae;apply aA;apply aF;exact ab rfl;exact aq;exact rfl;apply bp;exact ab rfl;exact aq;exact E0;exact ar;apply aM;exact aq
  |false=>
   simp only[h1]at z0
   simp only[h2]at z1
   apply aw (F:=bA) (loc:=[.ref 51,.int bg,.bytes (sl σ bg k),.bool hfin,bS uo,.int now,.unb,.unb,.unb]) rfl rfl rfl rfl;unfold bA;dsimp only
   apply bE (e:= .cmp _ _ _);apply au;apply az;exact ab rfl;exact aq;exact b5;apply bl;apply aa;exact aq;apply aa;exact aq;apply aa;exact aq;exact af;exact rfl;exact e0;apply ae
   apply aK
   exact z0 _;apply ae;apply aA;exact aq;apply bp;exact ab rfl;exact aq;exact tO;exact ar;apply ae;apply aC;exact z1 _ _ rfl;exact ar;apply aM;exact aq
 |false=>
  have hf:hfin=false:=by
   cases hfin with
   |false=>rfl
   |true=>have:=of_decide_eq_false h1;unfold bz at this;dsimp only at this;omega
  have h2:(Nat.beq bs 189&&hfin)=false:=by rw[hf,Bool.and_false]
  simp only[h1]at z0
  simp only[h2]at z1
  rw[h2]
  apply aw (F:=bA) (loc:=[.ref 51,.int bg,.bytes (sl σ bg k),.bool hfin,bS uo,.int now,.unb,.unb,.unb]) rfl rfl rfl rfl;unfold bA;dsimp only
  apply bE (e:= .cmp _ _ _);apply au;apply az;exact ab rfl;exact aq;exact b5;apply bl;apply aa;exact aq;apply aa;exact aq;apply aa;exact aq;exact af;exact rfl;exact e0;apply ae;apply aC;exact z0 _;exact ar;apply ae;apply aC;exact z1 _ _ rfl;exact ar;apply aM;exact aq
end
section
variable{n:Nat}{b fl io hh hfin:Bool}{s:MO}{c:fw}{st:Nat}{a:aU}{wh:eg}{rc:eA}{B:ee}{F:bD}{H:HH}{now x:Int}{σ:Nat→UInt8}{bg k kk nn n' W ED:Nat}{uo:Option Int}{v6 v7 v8:MV}
noncomputable abbrev dA (σ:Nat→UInt8)(bg k:Nat)(hfin:Bool)(uo:Option Int)(now:Int)(v6 v7 v8:MV):Loc:=[.ref 51,.int bg,.bytes (sl σ bg k),.bool hfin,bS uo,.int now,v6,v7,v8]
theorem Ib(hst:B.st=183∨B.st=184∨B.st=185):cU (ao fns n) b (aR bA.body 0) (dA σ bg k hfin uo now v6 v7 v8) (hp s c st a wh rc B F)=some (.next,dA σ bg k hfin uo now v6 v7 v8,hp s c st a wh rc B (F.app [.list [.str 183,.str 184,.str 185]])):=by
 have hm:gS [.str 183,.str 184,.str 185] (.str B.st)=some true:=by rcases hst with h|h|h<;>(rw[h];rfl)
 have e0:aI .notin (.str B.st) (.ref F.next) (hp s c st a wh rc B (F.app [.list [.str 183,.str 184,.str 185]]))=some false:=lA aH hm
 unfold bA;dsimp only[aR]
 apply aC;apply au;apply az;exact ab rfl;exact aq;exact b5;apply bl;apply aa;exact aq;apply aa;exact aq;apply aa;exact aq;exact af;exact rfl;exact e0;exact ar
noncomputable def jr:Option Int→Int
 |none=>0
 |some u=>u
theorem Ic:cU (ao fns n) b (aR bA.body 1) (dA σ bg k hfin uo now v6 v7 v8) (hp s c st a wh rc B F)=some (.next,dA σ bg k hfin uo now (.int (jr B.urg)) v7 v8,hp s c st a wh rc B F):=by
 obtain⟨hv,nx,fin,over,ed,rd,a',bs,wait,urg⟩:=B
 cases urg with
 |none=>
  unfold bA jr;dsimp only[aR]
  apply aA;apply dK;apply au;apply az;exact ab rfl;exact aq;exact xV;exact aq;exact rfl;exact aq;exact xU
 |some u=>
  unfold bA jr;dsimp only[aR]
  apply aA;apply dM;apply au;apply az;exact ab rfl;exact aq;exact xV;exact aq;exact rfl;apply aP;apply aa;apply az;exact ab rfl;exact aq;exact xV;exact af;exact rfl;exact xU
noncomputable def dw(uo urg:Option Int)(rd bg:Int):Option Int:=match uo with
 |none=>urg
 |some u=>jl urg rd (bg+u)
theorem Ie(hr:0≤B.rd):cU (ao fns n) b (aR bA.body 2) (dA σ bg k hfin uo now (.int (jr B.urg)) v7 v8) (hp s c st a wh rc B F)=
  some (.next,dA σ bg k hfin uo now (.int (jr B.urg)) v7 v8,hp s c st a wh rc {B with urg:=dw uo B.urg B.rd bg} F):=by
 obtain⟨hv,nx,fin,over,ed,rd,a',bs,wait,urg⟩:=B
 cases uo with
 |none=>
  unfold bA;dsimp only[aR]
  apply aC;apply bK;apply au;exact ab rfl;exact aq;exact rfl;exact ar
 |some u=>
  have g4: ∀H,bo (ao fns n) b (.l 4) (dA σ bg k hfin (some u) now (.int (jr urg)) v7 v8) H=some (.int u,H):=fun H=>ab rfl
  have z: ∀H,aI .gt (.int (bg+u)) (.int (if rd<jr urg then jr urg else rd)) H=some (tR urg rd (bg+u)):=fun H=>congrArg some (by
   unfold tR
   have hr:0≤rd:=hr
   rw[Bool.eq_iff_iff,Bool.and_eq_true,decide_eq_true_eq,decide_eq_true_eq]
   cases urg with
   |none=>
    show _↔_∧true=true
    rw[if_neg (by show¬rd<0;exact Int.not_lt.mpr hr)]
    exact(and_iff_left rfl).symm
   |some w=>
    show(if rd<w then w else rd)<bg+u↔_∧decide (w<bg+u)=true
    rw[decide_eq_true_eq]
    by_cases h:rd<w
    ·rw[if_pos h];omega
    ·rw[if_neg h];omega)
  unfold dw jl
  dsimp only
  cases hz:tR urg rd (bg+u)with
  |true=>
   simp only[hz]at z
   unfold bA;dsimp only[aR]
   apply aK;apply aZ;apply au;exact ab rfl;exact aq;exact rfl;apply au;apply aF;exact ab rfl;exact ab rfl;exact rfl;apply aP;apply aa;apply aP;apply aa;apply az;exact ab rfl;exact aq;exact t7;exact af;exact rfl;apply aa;exact ab rfl;exact af;exact rfl;exact z _;apply ae;apply aA;apply aF;exact ab rfl;exact ab rfl;exact rfl;apply bp;exact ab rfl;exact aq;exact Iy;exact ar
  |false=>
   simp only[hz]at z
   unfold bA;dsimp only[aR]
   apply aC;apply aZ;apply au;exact ab rfl;exact aq;exact rfl;apply au;apply aF;exact ab rfl;exact ab rfl;exact rfl;apply aP;apply aa;apply aP;apply aa;apply az;exact ab rfl;exact aq;exact t7;exact af;exact rfl;apply aa;exact ab rfl;exact af;exact rfl;exact z _;exact ar
theorem IB(hne:0<k∨hfin=true):cU (ao fns n) b (aR bA.body 3) (dA σ bg k hfin uo now v6 v7 v8) (hp s c st a wh rc B F)=some (.next,dA σ bg k hfin uo now v6 v7 v8,hp s c st a wh rc B F):=by
 by_cases h:k=0
 ·subst h
  obtain rfl:hfin=true:=by rcases hne with h|h;cases h;exact h
  unfold bA;dsimp only[aR]
  apply aC;apply aZ;apply au;exact ab rfl;exact aq;exact rfl;apply df;exact ab rfl;exact ar
 ·have z: ∀H,aI .eq (.bytes (sl σ bg k)) (.bytes []) H=some false:=fun H=>congrArg some (pS (Nat.pos_of_ne_zero h))
  unfold bA;dsimp only[aR]
  apply aC;apply bK;apply au;exact ab rfl;exact aq;exact z _;exact ar
noncomputable def ltV(e:Nat):MV→Bool
 | .int x=>decide (x<(e:Int))
 |_=>false
theorem zP: ∀{a b bg:Nat},so bg (a+b)=so bg a++so (bg+a) b:=by
 intro a
 induction a with
 |zero=>intro b bg;rw[Nat.zero_add];rfl
 |succ a ih=>intro b bg;rw[Nat.succ_add];show MV.int _::so (bg+1) (a+b)=_;rw[ih,Nat.add_assoc,Nat.add_comm 1 a];rfl
theorem pZ{e:Nat}: ∀{k bg:Nat},bg+k≤e→(so bg k).filter (ltV e)=so bg k:=by
 intro k
 induction k with
 |zero=>exact fun _=>rfl
 |succ k ih=>
  intro bg h
  have h':bg+1+k≤e:=by rwa[Nat.add_right_comm]
  exact(List.filter_cons_of_pos (p:=ltV e) (a:= .int (bg:Int)) (decide_eq_true (Int.ofNat_lt.mpr (Nat.lt_of_lt_of_le (Nat.lt_add_of_pos_right (Nat.succ_pos k)) h)))).trans (congrArg _ (ih h'))
theorem p0 {e:Nat}: ∀{k bg:Nat},e≤bg→(so bg k).filter (ltV e)=[]:=by
 intro k
 induction k with
 |zero=>exact fun _=>rfl
 |succ k ih=>exact fun{bg} h=>(List.filter_cons_of_neg (p:=ltV e) (a:= .int (bg:Int)) (mt of_decide_eq_true (Int.not_lt.mpr (Int.ofNat_le.mpr h)))).trans (ih (Nat.le_succ_of_le h))
theorem ri(hi:pT bg k ED kk):(so bg k).filter (ltV ED)=so bg kk:=by
 rcases hi with⟨h,rfl⟩|⟨h,⟨h1,rfl⟩|⟨h1,rfl⟩⟩
 ·exact p0 h
 ·exact pZ (Nat.add_le_of_le_sub' (Nat.le_of_lt h) h1)
 ·obtain⟨d,rfl⟩:=Nat.le.dest h1
  have e:=Nat.add_sub_of_le (Nat.le_of_lt h)
  rw[zP,List.filter_append,pZ (Nat.le_of_eq e),p0 (Nat.le_of_eq e.symm),List.append_nil]
theorem xC{p k i:Nat}(hp':p≤1000)(hk:k≤1000):itemAt H (.rng (p:Int) ((p:Int)+k)) i=some (so p k)[i]? :=by
 show(if decide ((p:Int).natAbs<2 ^ 40)&&decide (((p:Int)+k).natAbs<2 ^ 40)then some (if(p:Int)+(i:Int)<(p:Int)+(k:Int)then some (MV.int ((p:Int)+(i:Int)))else none)else none)=_
 rw[if_pos (by rw[decide_eq_true (Ac hp'),decide_eq_true (uX hp' hk)];rfl),su]
 by_cases h:i<k
 ·rw[if_pos (yn h),decide_eq_true h]
 ·rw[if_neg (u2 h),decide_eq_false h]
end
noncomputable def rg:Nat→Nat→List Nat
 |_,0=>[]
 |p,n+1=>p::rg (p+1) n
theorem nS: ∀{n p:Nat},so p n=fh (rg p n)
 |0,_=>rfl
 |n+1,p=>congrArg (MV.int (p:Int):: ·) (nS (n:=n) (p:=p+1))
theorem xD{x:Nat}: ∀{n p:Nat},x∈rg p n↔p≤x∧x<p+n
 |0,p=>⟨fun h=>(by cases h),fun h=>absurd (Nat.lt_of_lt_of_le h.2 h.1) (Nat.lt_irrefl x)⟩
 |n+1,p=>by
  show x∈p::rg (p+1) n↔_
  rw[List.mem_cons,xD (n:=n) (p:=p+1)]
  exact u3
theorem js: ∀{n p:Nat},(rg p n).length=n
 |0,_=>rfl
 |n+1,_=>congrArg (· +1) js
theorem iV{L:List Nat}:(fh L).length=L.length:=List.length_map ..
noncomputable def HK(L:List Nat):MV→Bool
 | .int y=> !decide (y.toNat∈L)
 |_=>false
theorem fR{τ:MV→Bool}{q:Nat→Bool}(h: ∀x:Nat,τ (.int (x:Int))=q x): ∀M:List Nat,(fh M).filter τ=fh (M.filter q)
 |[]=>rfl
 |x::r=>by
  show List.filter τ (MV.int (x:Int)::fh r)=_
  cases e:q x with
  |true=>rw[List.filter_cons_of_pos (by rw[h];exact e),List.filter_cons_of_pos e,fR h r];rfl
  |false=>rw[List.filter_cons_of_neg (by rw[h,e];decide),List.filter_cons_of_neg (by rw[e];decide),fR h r]
theorem sx{L:List Nat}{x:MV}(h:x∈fh L): ∃y:Nat,x= .int (y:Int):=by
 obtain⟨y,_,e⟩:=List.mem_map.mp h
 exact⟨y,e.symm⟩
section
variable{n:Nat}{b fl io hh hfin:Bool}{s:MO}{c:fw}{st:Nat}{a:aU}{wh:eg}{rc:eA}{B:ee}{F:bD}{H:HH}{now x:Int}{σ:Nat→UInt8}{bg k kk nn n' W ED:Nat}{uo:Option Int}{v6 v7 v8:MV}{L:List Nat}
theorem lB{call:eZ}{src:MV}{cond:IE}{M:List Nat}{τ:MV→Bool}{q:Nat→Bool}(hq: ∀x:Nat,τ (.int (x:Int))=q x)(hM:M.length<200)
  (hsrc: ∀F',Upd F.next (F.app [.list []]) F'→ ∀i,itemAt (hp s c st a wh rc B F') src i=some (fh M)[i]?)
  (ht: ∀(y:Nat) F',bo call false cond [.int (y:Int),.ref 51] (hp s c st a wh rc B F')=some (.bool (q y),hp s c st a wh rc B F')):
  ∃F',cC (F.Le F') (F'.at F.next=some (.list (fh (M.filter q)))) (F.at F.next=none) (compLoop (fun x h=>bo call false cond (x::[.ref 51]) h) (fun x h=>bo call false (.l 0) (x::[.ref 51]) h) src F.next 200 0 (hp s c st a wh rc B (F.app [.list []]))=some (hp s c st a wh rc B F')):=by
 have n1:F.at F.next=none:=dP (Nat.le_refl _)
 obtain⟨F',k1,k2,k3⟩:=pY (s:=s) (c:=c) (st:=st) (a:=a) (wh:=wh) (rc:=rc) (B:=B) (test:=fun x h=>bo call false cond (x::[.ref 51]) h) (elt:=fun x h=>bo call false (.l 0) (x::[.ref 51]) h) (τ:=τ) hsrc
  (fun x hx F'=>by obtain⟨y,rfl⟩:=sx hx;rw[hq];exact ht y F') (fun x hx F'=>by obtain⟨y,rfl⟩:=sx hx;exact ab rfl) 200 (fh M) 0 [] (F.app [.list []]) (fun _ _=>rfl) aH (by rw[iV];show 0+M.length<1000;omega) (fun i=>by rw[Nat.zero_add]) (by rw[iV];exact hM)
 exact⟨F',fun i o h=>(k1 i (fun e=>by rw[←e,n1]at h;cases h)).trans (aJ h),by rw[k2,fR hq];rfl,n1,k3⟩
theorem IC(hk:k≤100)(hb:bg≤100)(hE:B.ed=(ED:Int))(hi:pT bg k ED kk): ∃F',bx (F.Le F') (F'.at F.next=some (.list (fh (rg bg kk)))) (cU (ao fns n) b (aR bA.body 4) (dA σ bg k hfin uo now v6 v7 v8) (hp s c st a wh rc B F)=some (.next,dA σ bg k hfin uo now v6 (.ref F.next) v8,hp s c st a wh rc B F')):=by
 obtain⟨hv,nx,fin,over,ed,rd,a',bs,wait,urg⟩:=B
 dsimp only at hE
 subst hE
 obtain⟨F',k1,k2,_,k3⟩:=lB (s:=s) (c:=c) (st:=st) (a:=a) (wh:=wh) (rc:=rc) (B:=⟨hv,nx,fin,over,ED,rd,a',bs,wait,urg⟩) (F:=F) (call:=ao fns n) (src:= .rng (bg:Int) ((bg:Int)+k)) (cond:= .cmp .lt (.l 0) (.sub (.l 1) (.c (.str 203)))) (M:=rg bg k) (τ:=ltV ED) (q:=fun y=>decide ((y:Int)<ED)) (fun _=>rfl) (by rw[js];exact Nat.lt_of_le_of_lt hk (by decide))
  (fun F' _ i=>by rw[←nS];exact xC (Nat.le_trans hb (by decide)) (Nat.le_trans hk (by decide))) (fun y F'=>au (ab rfl) (az (ab rfl) aq wU) rfl)
 have e:(fh ((rg bg k).filter fun y=>decide ((y:Int)<ED)))=fh (rg bg kk):=(fR (τ:=ltV ED) (q:=fun y=>decide ((y:Int)<ED)) (fun _=>rfl) _).symm.trans (by rw[←nS,ri hi,nS])
 rw[e]at k2
 have ln: ∀H,cu false .len [.bytes (sl σ bg k)] H=some (.int k,H):=fun H=>by rw[bc (bM (Nat.le_trans hk (by decide))),bq]
 have rn: ∀H,cu false .range [.int (bg:Int),.int ((bg:Int)+k)] H=some (.rng (bg:Int) ((bg:Int)+k),H):=fun H=>by
  show(if decide ((bg:Int).natAbs<2 ^ 40)&&decide (((bg:Int)+k).natAbs<2 ^ 40)then some (MV.rng (bg:Int) ((bg:Int)+k),H)else none)=_
  rw[if_pos (by rw[decide_eq_true (BB hb),decide_eq_true (yp hb hk)];rfl)]
 refine⟨F',k1,k2,?_⟩
 unfold bA;dsimp only[aR]
 refine aA (v:= .ref F.next) (H1:=hp s c st a wh rc ⟨hv,nx,fin,over,ED,rd,a',bs,wait,urg⟩ F') (iO (v:= .rng (bg:Int) ((bg:Int)+k)) (H1:=hp s c st a wh rc ⟨hv,nx,fin,over,ED,rd,a',bs,wait,urg⟩ F) (cs:=[.ref 51]) ?_ rfl k3) Df
 apply aP;apply aa;exact ab rfl;apply aa;apply aF;exact ab rfl;apply aP;apply aa;exact ab rfl;exact af;exact ln _;exact rfl;exact af;exact rn _
theorem ID(hk:k≤100)(hkk:kk≤k)(hx7: ∃x7,v7= .ref x7∧F.at x7=some (.list (fh (rg bg kk))))(hf:hfin=true→bg+k=W)(hfin':B.fin=none∨B.fin=some (W:Int))(hn:B.nx=(nn:Int))(hnW:nn≤W):
  cU (ao fns n) b (aR bA.body 5) (dA σ bg k hfin uo now v6 v7 v8) (hp s c st a wh rc B F)=some (.next,dA σ bg k hfin uo now v6 v7 v8,hp s c st a wh rc {B with fin:=bj B.fin hfin kk k W} F):=by
 obtain⟨hv,nx,fin,over,ed,rd,a',bs,wait,urg⟩:=B
 obtain⟨x7,rfl,h7⟩:=hx7
 dsimp only at hn hfin'
 subst hn
 have ln: ∀H,cu b .len [.bytes (sl σ bg k)] H=some (.int k,H):=fun H=>by rw[bc (bM (Nat.le_trans hk (by decide))),bq]
 have ln7: ∀fin',cu b .len [.ref x7] (hp s c st a wh rc ⟨hv,nn,fin',over,ed,rd,a',bs,wait,urg⟩ F)=some (.int kk,hp s c st a wh rc ⟨hv,nn,fin',over,ed,rd,a',bs,wait,urg⟩ F):=fun fin'=>by
  have e:iZ (.ref x7) (hp s c st a wh rc ⟨hv,nn,fin',over,ed,rd,a',bs,wait,urg⟩ F)=some kk:=by
   unfold iZ
   dsimp only
   rw[dg h7]
   show some (fh (rg bg kk)).length=_
   rw[iV,js]
  show(match iZ (.ref x7) (hp s c st a wh rc ⟨hv,nn,fin',over,ed,rd,a',bs,wait,urg⟩ F)with|some n=>_|none=>none)=_
  rw[e]
  exact if_pos (Nat.ble_eq_true_of_le (Nat.le_trans hkk (Nat.le_trans hk (by decide))))
 unfold bj
 cases hfin with
 |false=>
  unfold bA;dsimp only[aR]
  apply aC;apply bK;exact ab rfl;exact ar
 |true=>
  have hW:=hf rfl
  by_cases h:kk=k
  ·have z1: ∀H,aI .eq (.int (kk:Int)) (.int (k:Int)) H=some true:=fun H=>congrArg some (decide_eq_true (mY h))
   rw[decide_eq_true h]
   rcases hfin' with rfl|rfl
   ·have z2: ∀H,aI .ge (.int ((bg:Int)+k)) (.int (nn:Int)) H=some true:=fun H=>congrArg some (decide_eq_true (yo hW hnW))
    rw[show(W:Int)=(bg:Int)+k from Eq.symm (rD hW)]
    unfold bA;dsimp only[aR]
    apply aK;apply aZ;exact ab rfl;apply aZ;apply au;apply aP;apply aa;exact ab rfl;exact af;exact ln7 _;apply aP;apply aa;exact ab rfl;exact af;exact ln _;exact z1 _;apply aZ;apply au;apply az;exact ab rfl;exact aq;exact tN;exact aq;exact rfl;apply au;apply aF;exact ab rfl;apply aP;apply aa;exact ab rfl;exact af;exact ln _;exact rfl;apply az;exact ab rfl;exact aq;exact pC;exact z2 _;apply ae;apply aA;apply aF;exact ab rfl;apply aP;apply aa;exact ab rfl;exact af;exact ln _;exact rfl;apply bp;exact ab rfl;exact aq;exact Hl;exact ar
   ·unfold bA;dsimp only[aR]
    
    apply aC
    apply aZ
    exact ab rfl
    apply aZ
    apply au;apply aP;apply aa;exact ab rfl;exact af;exact ln7 _;apply aP;apply aa;exact ab rfl;exact af;exact ln _;exact z1 _;apply bK;apply au;apply az;exact ab rfl;exact aq;exact tN;exact aq;exact rfl;exact ar
  ·have z1: ∀H,aI .eq (.int (kk:Int)) (.int (k:Int)) H=some false:=fun H=>congrArg some (decide_eq_false (rB h))
   rw[decide_eq_false h]
   unfold bA;dsimp only[aR]
   apply aC
   apply aZ
   exact ab rfl
   apply bK;apply au;apply aP;apply aa;exact ab rfl;exact af;exact ln7 _;apply aP;apply aa;exact ab rfl;exact af;exact ln _;exact z1 _;exact ar
end
section
variable{n:Nat}{b fl io hh hfin:Bool}{s:MO}{c:fw}{st:Nat}{a:aU}{wh:eg}{rc:eA}{B:ee}{F:bD}{H:HH}{now x:Int}{σ:Nat→UInt8}{bg k kk nn n' W ED x7:Nat}{uo:Option Int}{v6 v7 v8:MV}{L:List Nat}{P':jP}
theorem IF(hn:B.nx=(nn:Int)):cU (ao fns n) b (aR bA.body 6) (dA σ bg k hfin uo now v6 v7 v8) (hp s c st a wh rc B F)=some (.next,dA σ bg k hfin uo now v6 v7 (.int nn),hp s c st a wh rc B F):=by
 obtain⟨hv,nx,fin,over,ed,rd,a',bs,wait,urg⟩:=B
 dsimp only at hn
 subst hn
 unfold bA;dsimp only[aR]
 apply aA;apply az;exact ab rfl;exact aq;exact pC;exact Hf
theorem nT{y:Nat}(hL:B.hv=fh L):AX (hp s c st a wh rc B F) (.int (y:Int)) (.ref 50)=some (decide (y∈L)):=by
 show gS B.hv (.int (y:Int))=_
 rw[hL,sv]
theorem xE{i:Nat}{ys:List MV}(h:F.at i=some (.list ys))(hl:Nat.ble (B.hv.length+ys.length) 1000000=true):dm fl 3 50 [.ref i] (hp s c st a wh rc B F)=some (.none,hp s c st a wh rc {B with hv:=B.hv++ys} F):=by
 show(match listAt (hp s c st a wh rc B F) (.ref i)with|some ys=>_|none=>none)=_
 rw[ej h]
 exact if_pos hl
theorem IG(hL:B.hv=fh L)(hl:L.length≤150)(hkk:kk≤100)(h7:F.at x7=some (.list (fh (rg bg kk)))): ∃F',F.Le F'∧
  cU (ao fns n) b (aR bA.body 7) (dA σ bg k hfin uo now v6 (.ref x7) v8) (hp s c st a wh rc B F)=some (.next,dA σ bg k hfin uo now v6 (.ref x7) v8,hp s c st a wh rc {B with hv:=fh (L++(rg bg kk).filter fun y=> !decide (y∈L))} F'):=by
 obtain⟨F',k1,k2,_,k3⟩:=lB (s:=s) (c:=c) (st:=st) (a:=a) (wh:=wh) (rc:=rc) (B:=B) (F:=F) (call:=ao fns n) (src:= .ref x7) (cond:= .cmp .notin (.l 0) (.sub (.l 1) (.c (.str 200)))) (M:=rg bg kk) (τ:=HK L) (q:=fun y=> !decide (y∈L)) (fun _=>rfl) (by rw[js];exact Nat.lt_of_le_of_lt hkk (by decide))
  (fun F' u i=>item_at ((u x7 (old_ne h7)).trans (aJ h7))) (fun y F'=>au (ab rfl) (az (ab rfl) aq wQ) (g7 (nT hL)))
 have hlen:Nat.ble (B.hv.length+(fh ((rg bg kk).filter fun y=> !decide (y∈L))).length) 1000000=true:=Nat.ble_eq_true_of_le (by
  rw[hL,iV,iV]
  have:=List.length_filter_le (fun y=> !decide (y∈L)) (rg bg kk)
  rw[js]at this
  exact G1 hl this hkk)
 have e1:=xE (fl:=b) (s:=s) (c:=c) (st:=st) (a:=a) (wh:=wh) (rc:=rc) k2 hlen
 rw[hL,show fh L++fh ((rg bg kk).filter fun y=> !decide (y∈L))=fh (L++(rg bg kk).filter fun y=> !decide (y∈L))from(List.map_append ..).symm]at e1
 refine⟨F',k1,?_⟩
 have bm:tK (hp s c st a wh rc B F) 50 3 3:=⟨_,zB,rfl⟩
 have e2:bo (ao fns n) b (.comp (.l 0) (.l 7) (.cmp .notin (.l 0) (.sub (.l 1) (.c (.str 200)))) [0]) (dA σ bg k hfin uo now v6 (.ref x7) v8) (hp s c st a wh rc B F)=some (.ref F.next,hp s c st a wh rc B F'):=iO (v:= .ref x7) (cs:=[.ref 51]) (ab rfl) rfl k3
 exact bu (bP (az (ab rfl) aq wQ) bm (aa e2 af) e1)
noncomputable def xF:IE:= .cmp .isin (.sub (.l 0) (.c (.str 39))) (.sub (.l 0) (.c (.str 200)))
noncomputable def FN:fY:= .cons (.assign (.sub (.l 0) (.c (.str 39))) (.bin .add (.sub (.l 0) (.c (.str 39))) (.c (.int 1)))) .nil
theorem w_next{v1 v2 v3 v4 v5:MV}: ∀(m k nn:Nat)(B:ee),B.nx=(nn:Int)→B.hv=fh L→(∀x,nn≤x→x<nn+m→x∈L)→nn+m∉L→m<k→
  fS (fun l h=>bo (ao fns n) false xF l h) (fun l h=>bQ (ao fns n) false FN l h) k [.ref 51,v1,v2,v3,v4,v5,v6,v7,v8] (hp s c st a wh rc B F)=some (.next,[.ref 51,v1,v2,v3,v4,v5,v6,v7,v8],hp s c st a wh rc {B with nx:=((nn+m:Nat):Int)} F):=by
 intro m
 induction m with
 |zero=>
  intro k nn B h1 h2 h3 h4 h5
  obtain⟨j,rfl⟩: ∃j,k=j+1:=⟨k - 1,Ae h5⟩
  have e:bo (ao fns n) false xF [.ref 51,v1,v2,v3,v4,v5,v6,v7,v8] (hp s c st a wh rc B F)=some (.bool false,hp s c st a wh rc B F):=
   au (az (ab rfl) aq pC) (az (ab rfl) aq wQ) (by rw[h1];exact(nT (s:=s) (c:=c) (st:=st) (a:=a) (wh:=wh) (rc:=rc) (F:=F) h2).trans (by rw[decide_eq_false (by rwa[Nat.add_zero]at h4)]))
  obtain⟨hv,nx,fin,over,ed,rd,a',bs,wait,urg⟩:=B
  dsimp only at h1
  subst h1
  exact zf e
 |succ m ih=>
  intro k nn B h1 h2 h3 h4 h5
  obtain⟨j,rfl⟩: ∃j,k=j+1:=⟨k - 1,Ae h5⟩
  have e:bo (ao fns n) false xF [.ref 51,v1,v2,v3,v4,v5,v6,v7,v8] (hp s c st a wh rc B F)=some (.bool true,hp s c st a wh rc B F):=
   au (az (ab rfl) aq pC) (az (ab rfl) aq wQ) (by rw[h1];exact(nT (s:=s) (c:=c) (st:=st) (a:=a) (wh:=wh) (rc:=rc) (F:=F) h2).trans (by rw[decide_eq_true (h3 nn (Nat.le_refl _) (by omega))]))
  obtain⟨hv,nx,fin,over,ed,rd,a',bs,wait,urg⟩:=B
  dsimp only at h1 h2
  subst h1
  have r:=ih j (nn+1) ⟨hv,((nn+1:Nat):Int),fin,over,ed,rd,a',bs,wait,urg⟩ rfl h2 (fun x k1 k2=>h3 x (Nat.le_trans (Nat.le_add_right nn 1) k1) (by omega)) (by rw[Nat.add_assoc,Nat.add_comm 1];exact h4) (Nat.lt_of_succ_lt_succ h5)
  rw[Nat.add_assoc,Nat.add_comm 1]at r
  exact EM e (ae (aA (aF (az (ab rfl) aq pC) aq rfl) (bp (ab rfl) aq Iu)) ar) r
theorem IH(hn:B.nx=(nn:Int))(hL:B.hv=fh L)(hle:nn≤n')(h1: ∀x,nn≤x→x<n'→x∈L)(h2:n'∉L)(h3:n'<60):cU (ao fns n) b (aR bA.body 8) (dA σ bg k hfin uo now v6 v7 v8) (hp s c st a wh rc B F)=
  some (.next,dA σ bg k hfin uo now v6 v7 v8,hp s c st a wh rc {B with nx:=(n':Int)} F):=by
 have r:=w_next (n:=n) (s:=s) (c:=c) (st:=st) (a:=a) (wh:=wh) (rc:=rc) (F:=F) (v1:= .int bg) (v2:= .bytes (sl σ bg k)) (v3:= .bool hfin) (v4:=bS uo) (v5:= .int now) (v6:=v6) (v7:=v7) (v8:=v8) (n' - nn) 64 nn B hn hL (fun x k1 k2=>h1 x k1 (by omega)) (by rw[Nat.add_sub_of_le hle];exact h2) (by omega)
 rw[Nat.add_sub_of_le hle]at r
 exact lb r
theorem xG(hL: ∀x,x∈L↔(x<n'∨tT P' x))(hP:fW n' W P'):(!(fh (L.filter fun(y:Nat)=>decide ((n':Int)<(y:Int)))).isEmpty)=P'.isSome:=by
 cases P' with
 |none=>
  have e:L.filter (fun(y:Nat)=>decide ((n':Int)<(y:Int)))=[]:=List.filter_eq_nil_iff.mpr fun x hx=>by
   have:=(hL x).mp hx
   rw[xq,or_false]at this
   rw[decide_eq_true_eq]
   exact D7 this
  rw[e]
  rfl
 |some pe=>
  obtain⟨p,e⟩:=pe
  obtain⟨h1,h2,h3,h4⟩:=hP p e rfl
  have m:p∈L.filter (fun(y:Nat)=>decide ((n':Int)<(y:Int))):=List.mem_filter.mpr ⟨(hL p).mpr (.inr ⟨Nat.le_refl _,h3⟩),decide_eq_true (Int.ofNat_lt.mpr h1)⟩
  cases h:L.filter (fun(y:Nat)=>decide ((n':Int)<(y:Int)))with
  |nil=>rw[h]at m;cases m
  |cons x r=>rfl
theorem II(hk:k≤100)(hn:B.nx=(n':Int))(hh:B.hv=fh L)(hl:L.length<200)(hL: ∀x,x∈L↔(x<n'∨tT P' x))(hP:fW n' W P'): ∃F',F.Le F'∧
  cU (ao fns (n+1)) b (aR bA.body 9) (dA σ bg k hfin uo now v6 v7 (.int nn)) (hp s c st a wh rc B F)=
   some (.next,dA σ bg k hfin uo now v6 v7 (.int nn),hp s c st a wh rc {B with a:=eF (decide (0<k)) c.dl B.a (decide ((bg:Int)≤nn)) now P'.isSome} F'):=by
 unfold eF
 by_cases h:0<k
 ·rw[decide_eq_true h]
  obtain⟨F',k1,k2,_,k3⟩:=lB (s:=s) (c:=c) (st:=st) (a:=a) (wh:=wh) (rc:=rc) (B:=B) (F:=F) (call:=ao fns (n+1)) (src:= .ref 50) (cond:= .cmp .gt (.l 0) (.sub (.l 1) (.c (.str 39)))) (M:=L) (τ:=fun v=>match v with| .int y=>decide ((n':Int)<y)|_=>false) (q:=fun(y:Nat)=>decide ((n':Int)<(y:Int))) (fun _=>rfl) hl
   (fun F' u i=>by show some B.hv[i]? =_;rw[hh]) (fun y F'=>au (ab rfl) (az (ab rfl) aq pC) (by rw[hn];rfl))
  have e0:=FK (n:=n) (b:=b) (s:=s) (c:=c) (st:=st) (a:=a) (wh:=wh) (rc:=rc) (B:=B) (F:=F'.app [.list []]) (io:=decide ((bg:Int)≤nn)) (hh:=P'.isSome) (now:=now)
  have e1:bo (ao fns (n+1)) b (.comp (.l 0) (.sub (.l 0) (.c (.str 200))) (.cmp .gt (.l 0) (.sub (.l 1) (.c (.str 39)))) [0]) (dA σ bg k hfin uo now v6 v7 (.int nn)) (hp s c st a wh rc B F)=some (.ref F.next,hp s c st a wh rc B F'):=iO (v:= .ref 50) (cs:=[.ref 51]) (az (ab rfl) aq wQ) rfl k3
  have e2:aI .ne (.ref F.next) (.ref F'.next) (hp s c st a wh rc B (F'.app [.list []]))=some P'.isSome:=(gO (aJ k2) aH).trans (by rw[xG hL hP])
  have z: ∀H,aI .ne (.bytes (sl σ bg k)) (.bytes []) H=some true:=fun H=>by rw[ne_nil,pS h];rfl
  refine⟨F'.app [.list []],k1.trans le_app,?_⟩
  unfold bA;dsimp only[aR]
  apply aK;apply au;exact ab rfl;exact aq;exact z _;apply ae;apply bu;apply aB;apply aa;exact ab rfl;apply aa;apply au;exact ab rfl;exact ab rfl;exact rfl;apply aa;apply au;exact e1;apply bl;exact af;exact rfl;exact e2;apply aa;exact ab rfl;exact af;exact e0;exact ar
 ·obtain rfl:k=0:=Ip h
  refine⟨F,.refl,?_⟩
  unfold bA;dsimp only[aR]
  apply aC;apply au;exact ab rfl;exact aq;exact rfl;exact ar
theorem HL(hn:B.nx=(n':Int))(hle:nn≤n'):cU (ao fns (n+1)) b (aR bA.body 10) (dA σ bg k hfin uo now v6 v7 (.int nn)) (hp s c st a wh rc B F)=
   some (.next,dA σ bg k hfin uo now v6 v7 (.int nn),hp s c st a wh rc {B with a:=dh (decide (n' - nn=0)||hfin) B.a} F):=by
 obtain⟨hv,nx,fin,over,ed,rd,⟨w,due,gap⟩,bs,wait,urg⟩:=B
 dsimp only at hn
 subst hn
 have z: ∀H,aI .eq (.int (n':Int)) (.int (nn:Int)) H=some (decide (n' - nn=0)):=fun H=>congrArg some (by rw[decide_eq_decide];omega)
 unfold dh
 cases h:decide (n' - nn=0)with
 |true=>
  simp only[h]at z
  unfold bA;dsimp only[aR]
  apply aK;apply fc;apply au;apply az;exact ab rfl;exact aq;exact pC;exact ab rfl;exact z _;apply ae;apply aA;exact aq;apply bp;exact ab rfl;exact aq;exact tO;exact ar
 |false=>
  simp only[h]at z
  cases hfin with
  |true=>
   unfold bA;dsimp only[aR]
   apply aK;apply cf;apply au;apply az;exact ab rfl;exact aq;exact pC;exact ab rfl;exact z _;exact ab rfl;apply ae;apply aA;exact aq;apply bp;exact ab rfl;exact aq;exact tO;exact ar
  |false=>
   unfold bA;dsimp only[aR]
   apply aC;apply cf;apply au;apply az;exact ab rfl;exact aq;exact pC;exact ab rfl;exact z _;exact ab rfl;exact ar
theorem lC{i j:Nat}{es:List (Nat×MV)}{v:MV}(h:F.at i=some (.dictS es))(hg:dS es j=some v):bN (.ref i) (.str j) (hp s c st a wh rc B F)=some v:=by
 show(match(hp s c st a wh rc B F)[i]? with|some c=>_|none=>none)=_
 rw[dg h]
 exact hg
theorem HM(hst:B.st=183∨B.st=184∨B.st=185)(hn:B.nx=(n':Int))(hf:B.fin=none∨B.fin=some (W:Int))(ho:B.over=false)(hw:B.wait=none): ∃F',F.Le F'∧
  cU (ao fns (n+1)) b (aR bA.body 11) (dA σ bg k hfin uo now v6 v7 v8) (hp s c st a wh rc B F)=
   some (.next,dA σ bg k hfin uo now v6 v7 v8,hp s c st a wh rc {B with a:=dh (cZ B.fin n' W) B.a,over:=cZ B.fin n' W,st:=match cZ B.fin n' W with|true=>gP B.st|false=>B.st,wait:=match cZ B.fin n' W&&Nat.beq B.st 185 with|true=>some (now+7)|false=>none} F'):=by
 obtain⟨hv,nx,fin,over,ed,rd,⟨w,due,gap⟩,bs,wait,urg⟩:=B
 dsimp only at hn ho hw hf hst
 subst hn ho hw
 have z: ∀H,aI .eq (bS fin) (.int (n':Int)) H=some (cZ fin n' W):=fun H=>by
  unfold cZ
  rcases hf with rfl|rfl
  ·rfl
  ·exact congrArg some (by show decide ((W:Int)=n')=decide (n'=W);rw[decide_eq_decide];omega)
 cases h:cZ fin n' W with
 |false=>
  simp only[h]at z
  refine⟨F,.refl,?_⟩
  unfold bA;dsimp only[aR]
  apply aC;apply au;apply az;exact ab rfl;exact aq;exact tN;apply az;exact ab rfl;exact aq;exact pC;exact z _;exact ar
 |true=>
  simp only[h]at z
  refine⟨F.app [.dictS [(183,.str 186),(184,.str 187),(185,.str 189)]],le_app,?_⟩
  have ds: ∀B':ee,bo (ao fns (n+1)) b (.dsp [183,184,185] (.cons (.c (.str 186)) (.cons (.c (.str 187)) (.cons (.c (.str 189)) .nil)))) (dA σ bg k hfin uo now v6 v7 v8) (hp s c st a wh rc B' F)=some (.ref F.next,hp s c st a wh rc B' (F.app [.dictS [(183,.str 186),(184,.str 187),(185,.str 189)]])):=fun B'=>rfl
  rcases hst with rfl|rfl|rfl
  ·have sd: ∀B':ee,bN (.ref F.next) (.str 183) (hp s c st a wh rc B' (F.app [.dictS [(183,.str 186),(184,.str 187),(185,.str 189)]]))=some (.str 186):=fun B'=>lC aH rfl
   unfold bA;dsimp only[aR]
   apply aK;apply au;apply az;exact ab rfl;exact aq;exact tN;apply az;exact ab rfl;exact aq;exact pC;exact z _;apply ae;apply cN;apply bH;apply aa;exact aq;apply aa;exact aq;exact af;exact rfl;apply aS;apply bp;exact ab rfl;exact aq;exact CA;apply aS;apply bp;exact ab rfl;exact aq;exact tO;exact bX;apply ae;apply aA;apply az;exact ds _;apply az;exact ab rfl;exact aq;exact b5;exact sd _;apply bp;exact ab rfl;exact aq;exact w5;apply ae;apply aA;apply dM;apply au;apply az;exact ab rfl;exact aq;exact b5;exact aq;exact rfl;exact aq;apply bp;exact ab rfl;exact aq;exact As;exact ar
  ·have sd: ∀B':ee,bN (.ref F.next) (.str 184) (hp s c st a wh rc B' (F.app [.dictS [(183,.str 186),(184,.str 187),(185,.str 189)]]))=some (.str 187):=fun B'=>lC aH rfl
   unfold bA;dsimp only[aR]
   apply aK;apply au;apply az;exact ab rfl;exact aq;exact tN;apply az;exact ab rfl;exact aq;exact pC;exact z _;apply ae;apply cN;apply bH;apply aa;exact aq;apply aa;exact aq;exact af;exact rfl;apply aS;apply bp;exact ab rfl;exact aq;exact CA;apply aS;apply bp;exact ab rfl;exact aq;exact tO;exact bX;apply ae;apply aA;apply az;exact ds _;apply az;exact ab rfl;exact aq;exact b5;exact sd _;apply bp;exact ab rfl;exact aq;exact w5;apply ae;apply aA;apply dM;apply au;apply az;exact ab rfl;exact aq;exact b5;exact aq;exact rfl;exact aq;apply bp;exact ab rfl;exact aq;exact As;exact ar
  ·have sd: ∀B':ee,bN (.ref F.next) (.str 185) (hp s c st a wh rc B' (F.app [.dictS [(183,.str 186),(184,.str 187),(185,.str 189)]]))=some (.str 189):=fun B'=>lC aH rfl
   unfold bA;dsimp only[aR]
   apply aK;apply au;apply az;exact ab rfl;exact aq;exact tN;apply az;exact ab rfl;exact aq;exact pC;exact z _;apply ae;apply cN;apply bH;apply aa;exact aq;apply aa;exact aq;exact af;exact rfl;apply aS;apply bp;exact ab rfl;exact aq;exact CA;apply aS;apply bp;exact ab rfl;exact aq;exact tO;exact bX;apply ae;apply aA;apply az;exact ds _;apply az;exact ab rfl;exact aq;exact b5;exact sd _;apply bp;exact ab rfl;exact aq;exact w5;apply ae;apply aA;apply dK;apply au;apply az;exact ab rfl;exact aq;exact b5;exact aq;exact rfl;apply aF;exact ab rfl;exact aq;exact rfl;apply bp;exact ab rfl;exact aq;exact E0;exact ar
end
section
variable{n:Nat}{b fl io hh hfin:Bool}{s:MO}{c:fw}{st:Nat}{a:aU}{wh:eg}{rc:eA}{F:bD}{H:HH}{now:Int}{σ:Nat→UInt8}{bg k kk nn n' W ED x7:Nat}{uo:Option Int}{v6 v7 v8:MV}{L:List Nat}{P P':jP}{fin urg:Option Int}{rd:Int}{ba:aU}{bs:Nat}
theorem zQ{B:ee}(hst:B.st=183∨B.st=184∨B.st=185)(hr:0≤B.rd): ∃F',F.Le F'∧
  ao fns (n+1) b 1261 [.ref 51,.int bg,.bytes [],.bool false,bS uo,.int now] (hp s c st a wh rc B F)=some (.none,hp s c st a wh rc {B with urg:=dw uo B.urg B.rd bg} F'):=by
 have e0:=Ib (n:=n) (b:=b) (s:=s) (c:=c) (st:=st) (a:=a) (wh:=wh) (rc:=rc) (F:=F) (σ:=fun _=>0) (bg:=bg) (k:=0) (hfin:=false) (uo:=uo) (now:=now) (v6:= .unb) (v7:= .unb) (v8:= .unb) hst
 have e1:=Ic (n:=n) (b:=b) (s:=s) (c:=c) (st:=st) (a:=a) (wh:=wh) (rc:=rc) (B:=B) (F:=F.app [.list [.str 183,.str 184,.str 185]]) (σ:=fun _=>0) (bg:=bg) (k:=0) (hfin:=false) (uo:=uo) (now:=now) (v6:= .unb) (v7:= .unb) (v8:= .unb)
 have e2:=Ie (n:=n) (b:=b) (s:=s) (c:=c) (st:=st) (a:=a) (wh:=wh) (rc:=rc) (F:=F.app [.list [.str 183,.str 184,.str 185]]) (σ:=fun _=>0) (bg:=bg) (k:=0) (hfin:=false) (uo:=uo) (now:=now) (v7:= .unb) (v8:= .unb) hr
 refine⟨F.app [.list [.str 183,.str 184,.str 185]],le_app,?_⟩
 apply aw (F:=bA) (loc:=dA (fun _=>0) bg 0 false uo now .unb .unb .unb) rfl rfl rfl rfl
 refine ae e0 (ae e1 (ae e2 (bE (aZ (au (ab rfl) aq rfl) (bI (ab rfl))) (aM aq))))
theorem FO(hst:bs=183∨bs=184∨bs=185)(hr:0≤rd)(hW:W≤50)(hnW:nn≤W)(hkW:bg+k≤W)(hf:hfin=true→bg+k=W)(hfa:fin=none∨fin=some (W:Int))(hi:pT bg k ED kk)(hne:0<k∨hfin=true)
  (hL: ∀x,x∈L↔(x<nn∨tT P x))(hl:L.length≤100)(ha:pX nn W bg kk P n' P'):
  dk fun F' L'=>cC (F.Le F') ((∀x,x∈L'↔(x<n'∨tT P' x))) (L'.length≤L.length+kk) (ao fns (n+2) b 1261 [.ref 51,.int bg,.bytes (sl σ bg k),.bool hfin,bS uo,.int now] (hp s c st a wh rc ⟨fh L,nn,fin,false,ED,rd,ba,bs,none,urg⟩ F)=
    some (.none,hp s c st a wh rc ⟨fh L',n',bj fin hfin kk k W,cZ (bj fin hfin kk k W) n' W,ED,rd,dh (cZ (bj fin hfin kk k W) n' W) (dh (decide (n' - nn=0)||hfin) (eF (decide (0<k)) c.dl ba (decide ((bg:Int)≤nn)) now P'.isSome)),
     (match cZ (bj fin hfin kk k W) n' W with|true=>gP bs|false=>bs),(match cZ (bj fin hfin kk k W) n' W&&Nat.beq bs 185 with|true=>some (now+7)|false=>none),dw uo urg rd bg⟩ F')):=by
 have hkk:kk≤k:=by rcases hi with⟨q,h⟩|⟨_,⟨q,h⟩|⟨q,h⟩⟩<;>first|exact Nat.le_of_eq h|exact h▸q|exact h▸Nat.zero_le k
 have hfa1:=jo (hfin:=hfin) (kk:=kk) (k:=k) hfa
 have e0:=Ib (n:=n+1) (b:=b) (s:=s) (c:=c) (st:=st) (a:=a) (wh:=wh) (rc:=rc) (B:=⟨fh L,nn,fin,false,ED,rd,ba,bs,none,urg⟩) (F:=F) (σ:=σ) (bg:=bg) (k:=k) (hfin:=hfin) (uo:=uo) (now:=now) (v6:= .unb) (v7:= .unb) (v8:= .unb) hst
 have l0:F.Le (F.app [.list [.str 183,.str 184,.str 185]]):=le_app
 generalize F.app [.list [.str 183,.str 184,.str 185]]=F0 at e0 l0
 have e1:=Ic (n:=n+1) (b:=b) (s:=s) (c:=c) (st:=st) (a:=a) (wh:=wh) (rc:=rc) (B:=⟨fh L,nn,fin,false,ED,rd,ba,bs,none,urg⟩) (F:=F0) (σ:=σ) (bg:=bg) (k:=k) (hfin:=hfin) (uo:=uo) (now:=now) (v6:= .unb) (v7:= .unb) (v8:= .unb)
 have e2:=Ie (n:=n+1) (b:=b) (s:=s) (c:=c) (st:=st) (a:=a) (wh:=wh) (rc:=rc) (B:=⟨fh L,nn,fin,false,ED,rd,ba,bs,none,urg⟩) (F:=F0) (σ:=σ) (bg:=bg) (k:=k) (hfin:=hfin) (uo:=uo) (now:=now) (v7:= .unb) (v8:= .unb) hr
 have e3:=IB (n:=n+1) (b:=b) (s:=s) (c:=c) (st:=st) (a:=a) (wh:=wh) (rc:=rc) (B:=⟨fh L,nn,fin,false,ED,rd,ba,bs,none,dw uo urg rd bg⟩) (F:=F0) (σ:=σ) (bg:=bg) (uo:=uo) (now:=now) (v6:= .int (jr urg)) (v7:= .unb) (v8:= .unb) hne
 obtain⟨F1,l1,h7,e4⟩:=IC (n:=n+1) (b:=b) (s:=s) (c:=c) (st:=st) (a:=a) (wh:=wh) (rc:=rc) (B:=⟨fh L,nn,fin,false,ED,rd,ba,bs,none,dw uo urg rd bg⟩) (F:=F0) (σ:=σ) (hfin:=hfin) (uo:=uo) (now:=now) (v6:= .int (jr urg)) (v7:= .unb) (v8:= .unb) (Nat.le_trans (Nat.le_add_left k bg) (Nat.le_trans hkW (Nat.le_trans hW (by decide)))) (D9 hkW hW) rfl hi
 have e5:=ID (n:=n+1) (b:=b) (s:=s) (c:=c) (st:=st) (a:=a) (wh:=wh) (rc:=rc) (B:=⟨fh L,nn,fin,false,ED,rd,ba,bs,none,dw uo urg rd bg⟩) (F:=F1) (σ:=σ) (uo:=uo) (now:=now) (v6:= .int (jr urg)) (v8:= .unb) (Nat.le_trans (Nat.le_add_left k bg) (Nat.le_trans hkW (Nat.le_trans hW (by decide)))) hkk ⟨_,rfl,h7⟩ hf hfa rfl hnW
 have e6:=IF (n:=n+1) (b:=b) (s:=s) (c:=c) (st:=st) (a:=a) (wh:=wh) (rc:=rc) (B:=⟨fh L,nn,bj fin hfin kk k W,false,ED,rd,ba,bs,none,dw uo urg rd bg⟩) (F:=F1) (σ:=σ) (bg:=bg) (k:=k) (hfin:=hfin) (uo:=uo) (now:=now) (v6:= .int (jr urg)) (v7:= .ref F0.next) (v8:= .unb) rfl
 obtain⟨F2,l2,e7⟩:=IG (n:=n+1) (b:=b) (s:=s) (c:=c) (st:=st) (a:=a) (wh:=wh) (rc:=rc) (B:=⟨fh L,nn,bj fin hfin kk k W,false,ED,rd,ba,bs,none,dw uo urg rd bg⟩) (σ:=σ) (k:=k) (hfin:=hfin) (uo:=uo) (now:=now) (v6:= .int (jr urg)) (v8:= .int nn) rfl (Nat.le_trans hl (by decide)) (Nat.le_trans hkk (D8 hkW hW)) h7
 have hL': ∀x,x∈L++(rg bg kk).filter (fun y=> !decide (y∈L))↔(x<n'∨tT P' x):=fun x=>by
  have hd:(!decide (x∈L))=true↔ ¬(x<nn∨tT P x):=by rw[Bool.not_eq_true',decide_eq_false_iff_not,hL]
  rw[ha.set,List.mem_append,List.mem_filter,xD,hd,hL]
  constructor
  ·intro h
   rcases h with(h|h)|h
   ·exact .inl h
   ·exact .inr (.inl h)
   ·exact .inr (.inr h.1)
  ·intro h
   by_cases q:x<nn∨tT P x
   ·exact .inl q
   ·rcases h with h|h|h
    ·exact absurd (.inl h) q
    ·exact absurd (.inr h) q
    ·exact .inr ⟨h,q⟩
 have hlen:(L++(rg bg kk).filter (fun y=> !decide (y∈L))).length≤L.length+kk:=by
  rw[List.length_append]
  have:=List.length_filter_le (fun y=> !decide (y∈L)) (rg bg kk)
  rw[js]at this
  exact Nat.add_le_add_left this L.length
 generalize L++(rg bg kk).filter (fun y=> !decide (y∈L))=L' at e7 hL' hlen
 have e8:=IH (n:=n+1) (b:=b) (s:=s) (c:=c) (st:=st) (a:=a) (wh:=wh) (rc:=rc) (B:=⟨fh L',nn,bj fin hfin kk k W,false,ED,rd,ba,bs,none,dw uo urg rd bg⟩) (F:=F2) (σ:=σ) (bg:=bg) (k:=k) (hfin:=hfin) (uo:=uo) (now:=now) (v6:= .int (jr urg)) (v7:= .ref F0.next) (v8:= .int nn)
  rfl rfl ha.le (fun x _ h=>(hL' x).mpr (.inl h)) (fun h=>by
   rcases(hL' n').mp h with h|h
   ·exact Nat.lt_irrefl _ h
   ·cases P' with
    |none=>exact h
    |some pe=>exact absurd h.1 (Nat.not_le.mpr (ha.ok pe.1 pe.2 rfl).1)) (Nat.lt_of_le_of_lt ha.leW (Nat.lt_of_le_of_lt hW (by decide)))
 obtain⟨F3,l3,e9⟩:=II (n:=n) (b:=b) (s:=s) (c:=c) (st:=st) (a:=a) (wh:=wh) (rc:=rc) (B:=⟨fh L',n',bj fin hfin kk k W,false,ED,rd,ba,bs,none,dw uo urg rd bg⟩) (F:=F2) (σ:=σ) (bg:=bg) (k:=k) (hfin:=hfin) (uo:=uo) (now:=now) (v6:= .int (jr urg)) (v7:= .ref F0.next) (nn:=nn)
  (Nat.le_trans (Nat.le_add_left k bg) (Nat.le_trans hkW (Nat.le_trans hW (by decide)))) rfl rfl (by omega) hL' ha.ok
 have e10:=HL (n:=n) (b:=b) (s:=s) (c:=c) (st:=st) (a:=a) (wh:=wh) (rc:=rc) (B:=⟨fh L',n',bj fin hfin kk k W,false,ED,rd,eF (decide (0<k)) c.dl ba (decide ((bg:Int)≤nn)) now P'.isSome,bs,none,dw uo urg rd bg⟩) (F:=F3) (σ:=σ) (bg:=bg) (k:=k) (hfin:=hfin) (uo:=uo) (now:=now) (v6:= .int (jr urg)) (v7:= .ref F0.next)
  rfl ha.le
 obtain⟨F4,l4,e11⟩:=HM (n:=n) (b:=b) (s:=s) (c:=c) (st:=st) (a:=a) (wh:=wh) (rc:=rc) (B:=⟨fh L',n',bj fin hfin kk k W,false,ED,rd,dh (decide (n' - nn=0)||hfin) (eF (decide (0<k)) c.dl ba (decide ((bg:Int)≤nn)) now P'.isSome),bs,none,dw uo urg rd bg⟩) (F:=F3) (σ:=σ) (bg:=bg) (k:=k) (hfin:=hfin) (uo:=uo) (now:=now) (v6:= .int (jr urg)) (v7:= .ref F0.next) (v8:= .int nn)
  hst rfl hfa1 rfl rfl
 refine⟨F4,L',(((l0.trans l1).trans l2).trans l3).trans l4,hL',hlen,?_⟩
 apply aN (F:=bA) (loc:=dA σ bg k hfin uo now .unb .unb .unb) rfl rfl rfl rfl
 exact ae e0 (ae e1 (ae e2 (ae e3 (ae e4 (ae e5 (ae e6 (ae e7 (ae e8 (ae e9 (ae e10 (ae e11 ar)))))))))))
end
section
variable{n:Nat}{b fl io hh hfin:Bool}{s:MO}{c:fw}{st:Nat}{a:aU}{wh:eg}{rc:eA}{B:ee}{F:bD}{H:HH}{now:Int}{σ:Nat→UInt8}{bg k:Nat}{uo:Option Int}{v7 v8 v9 v10:MV}{x g d:Nat}
noncomputable abbrev cO (σ:Nat→UInt8)(bg k:Nat)(hfin:Bool)(uo:Option Int)(now:Int)(v7 v8 v9 v10:MV):Loc:=[.ref 8,.ref 51,.int bg,.bytes (sl σ bg k),.bool hfin,bS uo,.int now,v7,v8,v9,v10]
theorem IJ:cU (ao fns n) b (aR cn.body 0) (cO σ bg k hfin uo now v7 v8 v9 v10) H=some (.next,cO σ bg k hfin uo now (.int (jQ hfin uo.isSome)) v8 v9 v10,H):=by
 cases hfin<;>cases uo<;>rfl
theorem HN(hR:c.R≠0):dk fun F' g=>bx (F.Le F') (dv F' g (num c.R bg) hfin uo.isSome (jr uo) (sl σ bg k)) (cU (ao fns (n+1)) b (aR cn.body 1) (cO σ bg k hfin uo now (.int (jQ hfin uo.isSome)) v8 v9 v10) (hp s c st a wh rc B F)=
   some (.next,cO σ bg k hfin uo now (.int (jQ hfin uo.isSome)) (.ref g) v9 v10,hp s c st a wh rc B F')):=by
 refine⟨F.app [d6 90 80 (num c.R bg) 101 (jQ hfin uo.isSome) 9 (jr uo) [] (sl σ bg k),.inst 702 F.next],F.next+1,le_app,⟨F.next,nK,aH⟩,?_⟩
 have e0:bo (ao fns (n+1)) b (.ife (.cmp .isn (.l 5) (.c .none)) (.c (.int 0)) (.l 5)) (cO σ bg k hfin uo now (.int (jQ hfin uo.isSome)) v8 v9 v10) (hp s c st a wh rc B F)=some (.int (jr uo),hp s c st a wh rc B F):=by cases uo<;>rfl
 unfold cn;dsimp only[aR]
 apply aA;apply rR;exact rfl;apply aa;exact aq;apply aa;exact aq;apply aa;apply aB;apply aa;exact ab rfl;apply aa;exact ab rfl;exact af;exact sk hR;apply aa;exact aq;apply aa;exact ab rfl;apply aa;exact aq;apply aa;exact e0;apply aa;exact aq;apply aa;exact ab rfl;exact af;exact Fc;exact Hf
theorem HO{F1 F2:bD}{x y:Nat}{st':Nat}{a':aU}{wh':eg}{rc':eA}{B':ee}(e1:ao fns n false 977 [.ref 8,.int now] (hp s c st a wh rc B F)=some (.ref x,hp s c st' a' wh' rc' B F1))(hx:F1.at x=some (.list []))
  (e2:ao fns n b 1268 [.ref 51,.int now] (hp s c st' a' wh' rc' B (F1.app [.list []]))=some (.ref y,hp s c st' a' wh' rc' B' F2))(hl:(F1.app [.list []]).Le F2)(hy:F2.at y=some (.list [])):
  cU (ao fns n) b (aR cn.body 4) (cO σ bg k hfin uo now v7 v8 v9 v10) (hp s c st a wh rc B F)=some (.next,cO σ bg k hfin uo now v7 v8 v9 v10,hp s c st' a' wh' rc' B' F2):=by
 have e3:bo (ao fns n) b (.comp (.meth (.l 0) 139 .nil) (.call 977 (.cons (.l 0) (.cons (.l 6) .nil))) (.c (.bool true)) []) (cO σ bg k hfin uo now v7 v8 v9 v10) (hp s c st a wh rc B F)=some (.ref F1.next,hp s c st' a' wh' rc' B (F1.app [.list []])):=
  iO (v:= .ref x) (H1:=hp s c st' a' wh' rc' B F1) (cs:=[]) (aB (aa (ab rfl) (aa (ab rfl) af)) e1) rfl (nF (gw (aJ hx)))
 exact aC (au e3 (aB (aa (ab rfl) (aa (ab rfl) af)) e2) (gO (hl _ _ aH) hy)) ar
theorem C4 {i j:Nat}{v w:MV}{q:Bool}(h:F.at i=some (.list [v]))(h':F.at j=some (.list [w]))(he:rm 3 v w=some q):aI .ne (.ref i) (.ref j) (hp s c st a wh rc B F)=some (!q):=by
 have e:z5 (hp s c st a wh rc B F) (.ref i) (.ref j)=some (q&&true):=by
  show(match listAt (hp s c st a wh rc B F) (.ref i)with|some xs=>_|none=>none)=_
  rw[ej h]
  show(match listAt (hp s c st a wh rc B F) (.ref j)with|some ys=>_|none=>none)=_
  rw[ej h']
  show(match rm 3 v w with|some x=>(match rl (rm 3) [] []with|some y=>some (x&&y)|none=>none)|none=>none)=_
  rw[he]
  rfl
 rw[Bool.and_true]at e
 exact g7 e
theorem C5 {R:Int}{i w:Int}:rm 3 (.tup [.int 80,.int 90,.int 101,.int i,.int 16,.int w,.int 0,.bytes [],.bytes []]) (.tup [.int 80,.int 90,.int 101,.int i,.int 16,.int w,.int 0,.bytes [],.bytes []])=some true:=by
 show some (decide ((80:Int)=80)&&(decide ((90:Int)=90)&&(decide ((101:Int)=101)&&(decide (i=i)&&(decide ((16:Int)=16)&&(decide (w=w)&&(decide ((0:Int)=0)&&(true&&(true&&true)))))))))=_
 rw[decide_eq_true (rfl:i=i),decide_eq_true (rfl:w=w)]
 rfl
theorem HP{F1:bD}{x g d:Nat}{st':Nat}{a':aU}{wh':eg}{rc':eA}{B':ee}{i w:Int}(e1:ao fns (n+1) false 977 [.ref 8,.int now] (hp s c st a wh rc B F)=some (.ref x,hp s c st' a' wh' rc' B F1))(hx:F1.at x=some (.list [.ref g]))
  (hg:F1.at g=some (.inst 702 d))(hd:F1.at d=some (d6 80 90 101 i 16 w 0 [] []))
  (e2: ∀F',ao fns (n+1) b 1268 [.ref 51,.int now] (hp s c st' a' wh' rc' B F')=some (.ref F'.next,hp s c st' a' wh' rc' B' (F'.app [.list [.tup [.int 80,.int 90,.int 101,.int i,.int 16,.int w,.int 0,.bytes [],.bytes []]]]))):
  ∃F',F1.Le F'∧cU (ao fns (n+1)) b (aR cn.body 4) (cO σ bg k hfin uo now v7 v8 v9 v10) (hp s c st a wh rc B F)=some (.next,cO σ bg k hfin uo now v7 v8 v9 v10,hp s c st' a' wh' rc' B' F'):=by
 have hx1:=aJ (L:=[MO.list []]) hx
 have r:=HB (n:=n) (b:=false) (s:=s) (c:=c) (st:=st') (a:=a') (wh:=wh') (rc:=rc') (B:=B) (aJ (L:=[MO.list []]) hg) (aJ (L:=[MO.list []]) hd)
 have mm:aX (hp s c st' a' wh' rc' B (F1.app [.list []])) g 139 699:=w2 (aJ hg) (aJ hd) rfl rfl
 have ap:dm false 0 F1.next [.tup [.int 80,.int 90,.int 101,.int i,.int 16,.int w,.int 0,.bytes [],.bytes []]] (hp s c st' a' wh' rc' B (F1.app [.list []]))=some (.none,hp s c st' a' wh' rc' B ((F1.app [.list []]).set F1.next (.list [.tup [.int 80,.int 90,.int 101,.int i,.int 16,.int w,.int 0,.bytes [],.bytes []]]))):=dR aH rfl
 have hn:=aW (o':= .list [.tup [.int 80,.int 90,.int 101,.int i,.int 16,.int w,.int 0,.bytes [],.bytes []]]) (aH (F:=F1) (o:= .list []) (L:=[]))
 have hx2:=(bf (o':= .list [.tup [.int 80,.int 90,.int 101,.int i,.int 16,.int w,.int 0,.bytes [],.bytes []]]) (aH (F:=F1) (o:= .list []) (L:=[])) (old_ne hx)).trans hx1
 have l1:F1.Le ((F1.app [.list []]).set F1.next (.list [.tup [.int 80,.int 90,.int 101,.int i,.int 16,.int w,.int 0,.bytes [],.bytes []]])):=le_app.put (dP (Nat.le_refl _)) aH
 generalize (F1.app [.list []]).set F1.next (.list [.tup [.int 80,.int 90,.int 101,.int i,.int 16,.int w,.int 0,.bytes [],.bytes []]])=F2 at*
 have e3:bo (ao fns (n+1)) b (.comp (.meth (.l 0) 139 .nil) (.call 977 (.cons (.l 0) (.cons (.l 6) .nil))) (.c (.bool true)) []) (cO σ bg k hfin uo now v7 v8 v9 v10) (hp s c st a wh rc B F)=some (.ref F1.next,hp s c st' a' wh' rc' B F2):=
  iO (v:= .ref x) (H1:=hp s c st' a' wh' rc' B F1) (cs:=[]) (aB (aa (ab rfl) (aa (ab rfl) af)) e1) rfl
   (EN (item_at hx1) aq (ax (ab rfl) mm af r) ap (nF (item_at hx2)))
 exact⟨_,l1.trans le_app,aC (au e3 (aB (aa (ab rfl) (aa (ab rfl) af)) (e2 F2)) (C4 (aJ hn) aH (C5 (R:=0)))) ar⟩
end
section
variable{n:Nat}{b fl io hh hfin:Bool}{s:MO}{c:fw}{st:Nat}{a:aU}{wh:eg}{rc:eA}{B:ee}{F:bD}{H:HH}{now:Int}{σ:Nat→UInt8}{bg k nn rd:Nat}{uo:Option Int}{v7 v8 v9 v10:MV}{x g d:Nat}{bs:List UInt8}
theorem xH{r r':Option Int}(h:r=r'):aI .ne (bS r) (bS r') H=some false:=by
 subst h
 cases r with
 |none=>rfl
 |some i=>
  show some (!decide (i=i))=_
  rw[decide_eq_true rfl]
  rfl
theorem IK(h3:wh.D.map (·.1)=B.a.due)(h4:wh.W.map (·.1)=B.wait):cU (ao fns (n+1)) b (aR cn.body 5) (cO σ bg k hfin uo now v7 v8 v9 v10) (hp s c st a wh rc B F)=some (.next,cO σ bg k hfin uo now v7 v8 v9 v10,hp s c st a wh rc B F):=by
 have z3: ∀H,aI .ne (bS (wh.D.map (·.1))) (bS B.a.due) H=some false:=fun H=>xH h3
 have z4: ∀H,aI .ne (bS (wh.W.map (·.1))) (bS B.wait) H=some false:=fun H=>xH h4
 unfold cn;dsimp only[aR]
 apply aC;apply cf;apply au;apply ax;apply ah;exact ab rfl;exact iP;exact rS;apply aa;exact aq;exact af;exact CE;apply az;exact ab rfl;exact aq;exact Ar;exact z3 _;apply au;apply ax;apply ah;exact ab rfl;exact iP;exact rS;apply aa;exact aq;exact af;exact CF;apply az;exact ab rfl;exact aq;exact Hk;exact z4 _;exact ar
theorem IL:cU (ao fns n) b (aR cn.body 6) (cO σ bg k hfin uo now v7 v8 v9 v10) (hp s c st a wh rc B F)=some (.next,cO σ bg k hfin uo now v7 v8 (.ref 45) v10,hp s c st a wh rc B F):=by
 unfold cn;dsimp only[aR]
 apply aA;apply ah;exact ab rfl;exact lk;exact Dg
theorem IM(h1:st=B.st)(h2:rc.hf=B.over): ∃F',F.Le F'∧cU (ao fns n) b (aR cn.body 7) (cO σ bg k hfin uo now v7 v8 (.ref 45) v10) (hp s c st a wh rc B F)=some (.next,cO σ bg k hfin uo now v7 v8 (.ref 45) v10,hp s c st a wh rc B F'):=by
 have z: ∀F':bD,aI .ne (.ref F'.next) (.ref (F'.app [.list [.str st,.bool rc.hf]]).next) (hp s c st a wh rc B ((F'.app [.list [.str st,.bool rc.hf]]).app [.list [.str B.st,.bool B.over]]))=some false:=fun F'=>by
  have e:z5 (hp s c st a wh rc B ((F'.app [.list [.str st,.bool rc.hf]]).app [.list [.str B.st,.bool B.over]])) (.ref F'.next) (.ref (F'.app [.list [.str st,.bool rc.hf]]).next)=some true:=by
   show(match listAt _ (.ref F'.next)with|some xs=>_|none=>none)=_
   rw[ej (aJ aH)]
   show(match listAt _ (.ref (F'.app [.list [.str st,.bool rc.hf]]).next)with|some ys=>_|none=>none)=_
   rw[ej aH,h1,h2]
   show some (Nat.beq B.st B.st&&((B.over==B.over)&&true))=_
   rw[Nat.beq_refl,beq_self_eq_true]
   rfl
  exact g7 e
 refine⟨(F.app [.list [.str st,.bool rc.hf]]).app [.list [.str B.st,.bool B.over]],le_app.trans le_app,?_⟩
 unfold cn;dsimp only[aR]
 apply aC;apply au;apply bl;apply aa;apply ah;exact ab rfl;exact fX;apply aa;apply ah;exact ab rfl;exact dQ;exact af;exact rfl;apply bl;apply aa;apply az;exact ab rfl;exact aq;exact b5;apply aa;apply az;exact ab rfl;exact aq;exact wR;exact af;exact rfl;exact z _;exact ar
theorem IP(hR:c.R≠0)(h:rc.nx=bz B.nx B.over):cU (ao fns (n+1)) b (aR cn.body 8) (cO σ bg k hfin uo now v7 v8 (.ref 45) v10) (hp s c st a wh rc B F)=some (.next,cO σ bg k hfin uo now v7 v8 (.ref 45) v10,hp s c st a wh rc B F):=by
 have z: ∀H,aI .ne (.int (num c.R rc.nx)) (.int (num c.R (bz B.nx B.over))) H=some false:=fun H=>by
  rw[h]
  show some (!decide (num c.R (bz B.nx B.over)=num c.R (bz B.nx B.over)))=_
  rw[decide_eq_true rfl]
  rfl
 unfold cn;dsimp only[aR]
 apply aC;apply au;apply ah;exact ab rfl;exact cB;apply aB;apply aa;exact ab rfl;apply aa;apply aB;apply aa;exact ab rfl;exact af;exact AM;exact af;exact sk hR;exact z _;exact ar
noncomputable def iW(urg:Option Int)(rd:Int):Int:=match dr urg rd with
 |none=>0
 |some u=>u - rd
theorem IQ:cU (ao fns n) b (aR cn.body 9) (cO σ bg k hfin uo now v7 v8 (.ref 45) v10) (hp s c st a wh rc B F)=some (.next,cO σ bg k hfin uo now v7 v8 (.ref 45) (.int (iW B.urg B.rd)),hp s c st a wh rc B F):=by
 obtain⟨hv,nx,fin,over,ed,rd,a',bs,wait,urg⟩:=B
 unfold iW dr
 cases urg with
 |none=>
  unfold cn;dsimp only[aR]
  apply aA;apply dK;apply fc;apply au;apply az;exact ab rfl;exact aq;exact xV;exact aq;exact rfl;exact aq;exact pj
 |some u=>
  dsimp only
  cases h:decide (rd<u)with
  |true=>
   have z: ∀H,aI .le (.int u) (.int rd) H=some false:=fun H=>congrArg some (decide_eq_false (by have:=of_decide_eq_true h;exact Int.not_le.mpr this))
   unfold cn;dsimp only[aR]
   apply aA;apply dM;apply cf;apply au;apply az;exact ab rfl;exact aq;exact xV;exact aq;exact rfl;apply au;apply az;exact ab rfl;exact aq;exact xV;apply az;exact ab rfl;exact aq;exact t7;exact z _;apply aF;apply az;exact ab rfl;exact aq;exact xV;apply az;exact ab rfl;exact aq;exact t7;exact rfl;exact pj
  |false=>
   have z: ∀H,aI .le (.int u) (.int rd) H=some true:=fun H=>congrArg some (decide_eq_true (by have:=of_decide_eq_false h;exact Int.not_lt.mp this))
   unfold cn;dsimp only[aR]
   apply aA;apply dK;apply cf;apply au;apply az;exact ab rfl;exact aq;exact xV;exact aq;exact rfl;apply au;apply az;exact ab rfl;exact aq;exact xV;apply az;exact ab rfl;exact aq;exact t7;exact z _;exact aq;exact pj
theorem HQ:cU (ao fns n) b (aR cn.body 10) (cO σ bg k hfin uo now v7 v8 (.ref 45) (.int (iW B.urg B.rd))) (hp s c st a wh rc B F)=some (.next,cO σ bg k hfin uo now v7 v8 (.ref 45) (.int (iW B.urg B.rd)),hp s c st a wh rc {B with urg:=dr B.urg B.rd} F):=by
 obtain⟨hv,nx,fin,over,ed,rd,a',bs,wait,urg⟩:=B
 cases urg with
 |none=>
  have z: ∀H,aI .eq (.int (iW none rd)) (.int 0) H=some true:=fun H=>rfl
  unfold cn;dsimp only[aR]
  apply aA;apply dK;apply au;exact ab rfl;exact aq;exact z _;exact aq;apply bp;exact ab rfl;exact aq;exact rfl
 |some u=>
  unfold iW dr
  dsimp only
  cases h:decide (rd<u)with
  |true=>
   have z: ∀H,aI .eq (.int (u - rd)) (.int 0) H=some false:=fun H=>congrArg some (decide_eq_false (by have:=of_decide_eq_true h;exact Bz this))
   unfold cn;dsimp only[aR]
   apply aA;apply dM;apply au;exact ab rfl;exact aq;exact z _;apply az;exact ab rfl;exact aq;exact xV;apply bp;exact ab rfl;exact aq;exact rfl
  |false=>
   unfold cn;dsimp only[aR]
   apply aA;apply dK;apply au;exact ab rfl;exact aq;exact rfl;exact aq;apply bp;exact ab rfl;exact aq;exact Hn
end
section
variable{n:Nat}{b fl io hh hfin:Bool}{s:MO}{c:fw}{st:Nat}{a:aU}{wh:eg}{rc:eA}{B:ee}{F:bD}{H:HH}{now:Int}{σ:Nat→UInt8}{bg k:Nat}{uo:Option Int}{v7 v8 v9 v10:MV}{x g d:Nat}{bs:List UInt8}{u0:Option Int}
theorem HR(hR:256≤c.R)(hy:F.at rc.ry=some (.barr bs))(hl:Nat.ble bs.length 1000000=true)(h1:(bs.length:Int)=B.nx - B.rd)(h2:rc.nx - behind rc bs.length=B.rd)(h3: ∀u,rc.ua=some u→u - B.rd<128∧B.rd - u<128):
  cU (ao fns (n+3)) b (aR cn.body 11) (cO σ bg k hfin uo now v7 v8 (.ref 45) (.int (iW rc.ua B.rd))) (hp s c st a wh rc B F)=
   some (.ret (.bool true),cO σ bg k hfin uo now v7 v8 (.ref 45) (.int (iW rc.ua B.rd)),hp s c st a wh {rc with ua:=dr rc.ua B.rd} B F):=by
 have e1:=E8 (n:=n+2) (b:=b) (s:=s) (c:=c) (st:=st) (a:=a) (wh:=wh) (B:=B) hy hl
 have e2:=Fg (n:=n) (b:=b) (s:=s) (st:=st) (a:=a) (wh:=wh) (B:=B) hR hy hl (by rw[h2];exact h3)
 rw[h2]at e2
 have z1: ∀H,aI .eq (.int (bs.length:Int)) (.int (B.nx - B.rd)) H=some true:=fun H=>congrArg some (decide_eq_true h1)
 have z2: ∀H,aI .eq (.int (match dr rc.ua B.rd with|none=>0|some u=>u - B.rd)) (.int (iW rc.ua B.rd)) H=some true:=fun H=>congrArg some (decide_eq_true rfl)
 exact bk (aZ (au (ax (ab rfl) zw af e1) (aF (az (ab rfl) aq pC) (az (ab rfl) aq t7) rfl) (z1 _)) (au (ax (ab rfl) zx af e2) (ab rfl) (z2 _))) rfl
structure IU(st:Nat)(wh:eg)(rc:eA)(B:ee)(F:bD)(bs:List UInt8):Prop where
 st:st=B.st
 hf:rc.hf=B.over
 D:wh.D.map (·.1)=B.a.due
 W:wh.W.map (·.1)=B.wait
 nx:rc.nx=bz B.nx B.over
 ua:rc.ua=B.urg
 ry:F.at rc.ry=some (.barr bs)
 hl:bs.length≤1000
 av:(bs.length:Int)=B.nx - B.rd
 ur: ∀u,B.urg=some u→u - B.rd<128∧B.rd - u<128
theorem p4 {x:Int}{l:Nat}{rc:eA}(h:rc.nx=bz x rc.hf):rc.nx - behind rc l=x - l:=by
 rw[h]
 unfold behind bz
 cases rc.hf with
 |true=>show x+1 - (l+1)=x - l;exact Int.add_sub_add_right x 1 ↑l
 |false=>show x - ((l:Int)+0)=x - l;exact BA
theorem xI{F1 F2 F3 F4:bD}{st2:Nat}{a2 a4:aU}{wh2 wh4:eg}{rc2 rc4:eA}{B3 B4:ee}(hR:256≤c.R)
  (e1:cU (ao fns (n+11)) true (aR cn.body 1) (cO σ bg k hfin uo now (.int (jQ hfin uo.isSome)) .unb .unb .unb) (hp s c st a wh rc B F)=some (.next,cO σ bg k hfin uo now (.int (jQ hfin uo.isSome)) (.ref g) .unb .unb,hp s c st a wh rc B F1))
  (e2:ao fns (n+11) true 963 [.ref 8,.ref g,.int now] (hp s c st a wh rc B F1)=some (.none,hp s c st2 a2 wh2 rc2 B F2))
  (e3:ao fns (n+11) true 1261 [.ref 51,.int bg,.bytes (sl σ bg k),.bool hfin,bS uo,.int now] (hp s c st2 a2 wh2 rc2 B F2)=some (.none,hp s c st2 a2 wh2 rc2 B3 F3))
  (e4:cU (ao fns (n+11)) true (aR cn.body 4) (cO σ bg k hfin uo now (.int (jQ hfin uo.isSome)) (.ref g) .unb .unb) (hp s c st2 a2 wh2 rc2 B3 F3)=some (.next,cO σ bg k hfin uo now (.int (jQ hfin uo.isSome)) (.ref g) .unb .unb,hp s c st2 a4 wh4 rc4 B4 F4))
  (ag:IU st2 wh4 rc4 B4 F4 bs): ∃F',F4.Le F'∧
  ao fns (n+12) true 1273 [.ref 8,.ref 51,.int bg,.bytes (sl σ bg k),.bool hfin,bS uo,.int now] (hp s c st a wh rc B F)=some (.bool true,hp s c st2 a4 wh4 {rc4 with ua:=dr B4.urg B4.rd} {B4 with urg:=dr B4.urg B4.rd} F'):=by
 have hR0:c.R≠0:=om hR
 have q3:=IK (n:=n+10) (b:=true) (s:=s) (c:=c) (st:=st2) (a:=a4) (wh:=wh4) (rc:=rc4) (B:=B4) (F:=F4) (σ:=σ) (bg:=bg) (k:=k) (hfin:=hfin) (uo:=uo) (now:=now) (v7:= .int (jQ hfin uo.isSome)) (v8:= .ref g) (v9:= .unb) (v10:= .unb) ag.D ag.W
 have q4:=IL (n:=n+11) (b:=true) (s:=s) (c:=c) (st:=st2) (a:=a4) (wh:=wh4) (rc:=rc4) (B:=B4) (F:=F4) (σ:=σ) (bg:=bg) (k:=k) (hfin:=hfin) (uo:=uo) (now:=now) (v7:= .int (jQ hfin uo.isSome)) (v8:= .ref g) (v9:= .unb) (v10:= .unb)
 obtain⟨F5,l5,q5⟩:=IM (n:=n+11) (b:=true) (s:=s) (c:=c) (st:=st2) (a:=a4) (wh:=wh4) (rc:=rc4) (B:=B4) (F:=F4) (σ:=σ) (bg:=bg) (k:=k) (hfin:=hfin) (uo:=uo) (now:=now) (v7:= .int (jQ hfin uo.isSome)) (v8:= .ref g) (v10:= .unb) ag.st ag.hf
 have q6:=IP (n:=n+10) (b:=true) (s:=s) (c:=c) (st:=st2) (a:=a4) (wh:=wh4) (rc:=rc4) (B:=B4) (F:=F5) (σ:=σ) (bg:=bg) (k:=k) (hfin:=hfin) (uo:=uo) (now:=now) (v7:= .int (jQ hfin uo.isSome)) (v8:= .ref g) (v10:= .unb) hR0 ag.nx
 have q7:=IQ (n:=n+11) (b:=true) (s:=s) (c:=c) (st:=st2) (a:=a4) (wh:=wh4) (rc:=rc4) (B:=B4) (F:=F5) (σ:=σ) (bg:=bg) (k:=k) (hfin:=hfin) (uo:=uo) (now:=now) (v7:= .int (jQ hfin uo.isSome)) (v8:= .ref g) (v10:= .unb)
 have q8:=HQ (n:=n+11) (b:=true) (s:=s) (c:=c) (st:=st2) (a:=a4) (wh:=wh4) (rc:=rc4) (B:=B4) (F:=F5) (σ:=σ) (bg:=bg) (k:=k) (hfin:=hfin) (uo:=uo) (now:=now) (v7:= .int (jQ hfin uo.isSome)) (v8:= .ref g)
 have q9:=HR (n:=n+8) (b:=true) (s:=s) (c:=c) (st:=st2) (a:=a4) (wh:=wh4) (rc:=rc4) (B:={B4 with urg:=dr B4.urg B4.rd}) (F:=F5) (σ:=σ) (bg:=bg) (k:=k) (hfin:=hfin) (uo:=uo) (now:=now) (v7:= .int (jQ hfin uo.isSome)) (v8:= .ref g) hR (l5 _ _ ag.ry) (Nat.ble_eq_true_of_le (Nat.le_trans ag.hl (by decide))) ag.av
  ((p4 (by rw[ag.hf];exact ag.nx)).trans (by rw[ag.av];show B4.nx - (B4.nx - B4.rd)=B4.rd;exact Int.sub_sub_self B4.nx B4.rd)) (by rw[ag.ua];exact ag.ur)
 rw[ag.ua]at q9
 refine⟨F5,l5,?_⟩
 have gu:bU [bS uo] 0=some (bS uo):=by cases uo<;>rfl
 have a3:dT (ao fns (n+11)) true (.cons (.l 1) (.cons (.l 2) (.cons (.l 3) (.cons (.l 4) (.cons (.l 5) (.cons (.l 6) .nil)))))) (cO σ bg k hfin uo now (.int (jQ hfin uo.isSome)) (.ref g) .unb .unb) (hp s c st2 a2 wh2 rc2 B F2)=
   some ([.ref 51,.int bg,.bytes (sl σ bg k),.bool hfin,bS uo,.int now],hp s c st2 a2 wh2 rc2 B F2):=aa (ab rfl) (aa (ab rfl) (aa (ab rfl) (aa (ab rfl) (aa (ab gu) (aa (ab rfl) af)))))
 apply aw (F:=cn) (loc:=cO σ bg k hfin uo now .unb .unb .unb .unb) rfl rfl rfl rfl
 exact ae IJ (ae e1 (ae (bu (aB (aa (ab rfl) (aa (ab rfl) (aa (ab rfl) af))) e2)) (ae (bu (aB a3 e3)) (ae e4 (ae q3 (ae q4 (ae q5 (ae q6 (ae q7 (ae q8 (B9 q9)))))))))))
end
structure Inv(σ:Nat→UInt8)(W m ll:Nat)(R:Int)(st:Nat)(a:aU)(wh:eg)(nn ED:Nat)(fin:Option Int)(over:Bool)(urg:Option Int)(ry pr:Nat)(L:List Nat)(rd:Nat)(wait:Option Int)(F:bD)(P:jP):Prop where
 stok:qW st
 D:a.due=none→wh.D=none
 Wt:wh.W.map (·.1)=wait
 sb:SB wh.S m
 fin:fin=none∨fin=some (W:Int)
 urg: ∀u,urg=some u→0≤u∧u<60
 rdn:rd≤nn
 nW:nn≤W
 ed:ED≤rd+16
 ry:F.at ry=some (.barr (sl σ rd (nn - rd)))
 pr:F.at pr=some (.list (fx R σ P))
 ok:fW nn W P
 hL: ∀x,x∈L↔(x<nn∨tT P x)
 hl:L.length≤ll
 rcv:st=183∨st=184∨st=185→over=false∧wait=none
noncomputable abbrev eG (nn ED:Nat)(fin:Option Int)(over:Bool)(urg:Option Int)(ry pr:Nat):eA:=⟨bz nn over,ED,fin,over,urg,ry,pr⟩
noncomputable abbrev eY (L:List Nat)(nn:Nat)(fin:Option Int)(over:Bool)(ED rd:Nat)(a:aU)(st:Nat)(wait urg:Option Int):ee:=⟨fh L,nn,fin,over,ED,rd,a,st,wait,urg⟩
section
variable{n r:Nat}{dl:Int}{b io hh hfin:Bool}{s:MO}{st:Nat}{a:aU}{wh:eg}{F:bD}{now:Int}{σ:Nat→UInt8}{bg k kk W m ll nn ED rd ry pr g:Nat}{uo fin urg wait:Option Int}{over:Bool}{L:List Nat}{P:jP}{v7 v8 v9 v10:MV}{R:Int}
theorem Inv.le {F':bD}(h:Inv σ W m ll R st a wh nn ED fin over urg ry pr L rd wait F P)(l:F.Le F'):Inv σ W m ll R st a wh nn ED fin over urg ry pr L rd wait F' P:=
 ⟨h.stok,h.D,h.Wt,h.sb,h.fin,h.urg,h.rdn,h.nW,h.ed,l _ _ h.ry,l _ _ h.pr,h.ok,h.hL,h.hl,h.rcv⟩
theorem nU(h:rd≤nn):dZ (eG nn ED fin over urg ry pr) (nn - rd)=bz ((rd:Int)+16) over:=by
 unfold dZ bz
 cases over with
 |true=>show(nn:Int)+1+(16 - ((nn - rd:Nat):Int))=(rd:Int)+16+1;exact GW h
 |false=>show(nn:Int)+(16 - ((nn - rd:Nat):Int))=(rd:Int)+16;exact D4 h
theorem C6 (i:Inv σ W m ll R st a wh nn ED fin over urg ry pr L rd wait F P)(hW:W≤50):r6 R (eG nn ED fin over urg ry pr) (nn - rd):=by
 have h1:=i.rdn
 have h2:=i.nW
 have h3:=i.ed
 have hf:=nU (ED:=ED) (fin:=fin) (over:=over) (urg:=urg) (ry:=ry) (pr:=pr) h1
 have p1:(rd:Int)+16≤bz ((rd:Int)+16) over∧bz ((rd:Int)+16) over≤(rd:Int)+17:=by unfold bz;cases over<;>constructor<;>(dsimp only;(first|exact Int.le_refl (↑rd+16)|exact Int.add_le_add_left (by decide) ↑rd|exact Int.le_add_one (Int.le_refl (↑rd+16))|omega))
 have p2:(nn:Int)≤bz (nn:Int) over∧bz (nn:Int) over≤(nn:Int)+1:=by unfold bz;cases over<;>constructor<;>(dsimp only;(first|exact Int.le_refl ↑nn|exact Int.le_add_one (Int.le_refl ↑nn)|exact Int.le_refl (↑nn+1)))
 have f1:bz ((rd:Int)+16) over≤67:=Int.le_trans p1.2 (Int.add_le_add_right (Int.ofNat_le.mpr (Nat.le_trans h1 (Nat.le_trans h2 hW))) 17)
 have f2:bz (nn:Int) over≤67:=Int.le_trans p2.2 (Int.le_trans (Int.add_le_add_right (Int.ofNat_le.mpr (Nat.le_trans h2 hW)) 1) (by decide))
 refine⟨Nat.ble_eq_true_of_le (Nat.le_trans (Nat.sub_le nn rd) (Nat.le_trans h2 (Nat.le_trans hW (by decide)))),?_,?_,?_,yj f2 (Int.natCast_nonneg ED)⟩<;>rw[hf]
 ·exact Int.le_trans (Int.ofNat_le.mpr h3) p1.1
 ·exact yj f1 (Int.natCast_nonneg ED)
 ·exact yj f1 (Int.le_trans (Int.natCast_nonneg nn) p2.1)
theorem zR(h:rd≤nn):lx (eG nn ED fin over urg ry pr) (nn - rd)=jq (eY L nn fin over ED rd a st wait urg):=by
 unfold lx jq
 rw[nU h]
 cases over<;>rfl
noncomputable def jL(over:Bool)(ED rd:Nat):Nat:=match !over&&decide (4≤(rd:Int)+16 - ED)with
 |true=>rd+16
 |false=>ED
theorem FP(h:rd≤nn):cH (eG nn ED fin over urg ry pr) (nn - rd)=(jL over ED rd:Nat):=by
 unfold cH
 rw[zR (L:=[]) (a:=⟨0,none,false⟩) (st:=0) (wait:=none) h,nU h]
 unfold jq jL
 cases over with
 |true=>rfl
 |false=>
  dsimp only[eY]
  cases decide (4≤(rd:Int)+16 - (ED:Int))<;>rfl
theorem FQ:xy (eY L nn fin over ED rd a st wait urg)=(jL over ED rd:Nat):=by
 unfold xy jq jL
 dsimp only[eY]
 cases !over&&decide (4≤(rd:Int)+16 - (ED:Int))<;>rfl
theorem xJ(h:ED≤rd+16):jL over ED rd≤rd+16:=by
 unfold jL
 cases !over&&decide (4≤(rd:Int)+16 - (ED:Int))with
 |true=>exact Nat.le_refl _
 |false=>exact h
theorem answers(hR:256≤Int.ofNat (r+1))(hW:W≤50)(hm:m≤1000)(i:Inv σ W m ll (.ofNat (r+1)) st a wh nn ED fin over urg ry pr L rd wait F P):jM fun a' wh' ED' F'=>bx (Inv σ W (m+1) ll (.ofNat (r+1)) st a' wh' nn ED' fin over urg ry pr L rd wait F' P) (wh'.D.map (·.1)=a'.due) (cU (ao fns (n+11)) b (aR cn.body 4) (cO σ bg k hfin uo now v7 v8 v9 v10) (hp s ⟨.ofNat (r+1),dl⟩ st a wh (eG nn ED fin over urg ry pr) (eY L nn fin over ED rd a st wait urg) F)=
   some (.next,cO σ bg k hfin uo now v7 v8 v9 v10,hp s ⟨.ofNat (r+1),dl⟩ st a' wh' (eG nn ED' fin over urg ry pr) (eY L nn fin over ED' rd a' st wait urg) F')):=by
 cases hd:hK a now with
 |false=>
  obtain⟨wh',F1,x,h1,h2,h3,l1,hx,e1⟩:=zD (n:=n+2) (b:=false) (s:=s) (st:=st) (a:=a) (wh:=wh) (rc:=eG nn ED fin over urg ry pr) (B:=eY L nn fin over ED rd a st wait urg) (F:=F) (r:=r) (dl:=dl) i.stok i.sb hm hd i.D
  have e2:=xA (n:=n+9) (b:=b) (s:=s) (c:=⟨.ofNat (r+1),dl⟩) (st:=st) (a:=a) (wh:=wh') (rc:=eG nn ED fin over urg ry pr) (B:=eY L nn fin over ED rd a st wait urg) (F:=F1.app [.list []]) (now:=now) hd
  have l2:=(l1.trans (le_app (L:=[.list []]))).trans (le_app (L:=[.list []]))
  refine⟨a,wh',ED,_,⟨i.stok,fun h=>Option.map_eq_none_iff.mp (h2.trans h),by rw[h1];exact i.Wt,h3,i.fin,i.urg,i.rdn,i.nW,i.ed,l2 _ _ i.ry,l2 _ _ i.pr,i.ok,i.hL,i.hl,i.rcv⟩,h2,HO e1 hx e2 le_app aH⟩
 |true=>
  have h0:(sl σ rd (nn - rd)).length=nn - rd:=bq
  have w:=C6 i hW
  rw[←h0]at w
  obtain⟨S,F1,x,g,d,h1,l1,hx,hg,hd',e1⟩:=w3 (n:=n+2) (b:=false) (s:=s) (a:=a) (wh:=wh) (B:=eY L nn fin over ED rd a st wait urg) (F:=F) (r:=r) (dl:=dl) i.stok i.sb hm hR i.ry w hd
  rw[h0,FP i.rdn]at e1 hd'
  have e2: ∀F',ao fns (n+11) b 1268 [.ref 51,.int now] (hp s ⟨.ofNat (r+1),dl⟩ st ⟨0,none,a.gap⟩ {wh with D:=none,S:=S} (eG nn (jL over ED rd) fin over urg ry pr) (eY L nn fin over ED rd a st wait urg) F')=_:=fun F'=>tU (n:=n+9) (by show Int.ofNat (r+1)≠0;exact om hR) hd
  unfold C3 at e2
  rw[FQ]at e2
  obtain⟨F4,l4,e4⟩:=HP (n:=n+10) (b:=b) (σ:=σ) (bg:=bg) (k:=k) (hfin:=hfin) (uo:=uo) (v7:=v7) (v8:=v8) (v9:=v9) (v10:=v10) e1 hx hg hd' e2
  have l2:=l1.trans l4
  exact⟨⟨0,none,a.gap⟩,{wh with D:=none,S:=S},jL over ED rd,F4,⟨i.stok,fun _=>rfl,i.Wt,fun j hj=>Nat.le_succ_of_le (h1 j hj),i.fin,i.urg,i.rdn,i.nW,xJ i.ed,l2 _ _ i.ry,l2 _ _ i.pr,i.ok,i.hL,i.hl,i.rcv⟩,rfl,e4⟩
noncomputable abbrev zS (s:MO)(r:Nat)(dl:Int)(st:Nat)(a:aU)(wh:eg)(nn ED:Nat)(fin:Option Int)(over:Bool)(urg:Option Int)(ry pr:Nat)(L:List Nat)(rd:Nat)(wait:Option Int)(F:bD):HH:=
 hp s ⟨.ofNat (r+1),dl⟩ st a wh (eG nn ED fin over urg ry pr) (eY L nn fin over ED rd a st wait urg) F
theorem xK{rd:Int}(h: ∀u,urg=some u→0≤u∧u<60): ∀u,dr urg rd=some u→0≤u∧u<60:=by
 intro u hu
 cases urg with
 |none=>cases hu
 |some w=>
  unfold dr at hu
  dsimp only at hu
  cases hd:decide (rd<w)with
  |true=>rw[hd]at hu;cases hu;exact h _ rfl
  |false=>rw[hd]at hu;cases hu
noncomputable def eB(n r:Nat)(dl:Int)(s:MO)(σ:Nat→UInt8)(W m ll rd bg k:Nat)(hfin:Bool)(uo:Option Int)(now:Int)(H:HH):Prop:=
 Dh fun st' a' wh' nn' ED' fin' over' urg' ry' pr' L' wait' F' P'=>Inv σ W m ll (.ofNat (r+1)) st' a' wh' nn' ED' fin' over' urg' ry' pr' L' rd wait' F' P'∧
  ao fns (n+12) true 1273 [.ref 8,.ref 51,.int bg,.bytes (sl σ bg k),.bool hfin,bS uo,.int now] H=some (.bool true,zS s r dl st' a' wh' nn' ED' fin' over' urg' ry' pr' L' rd wait' F')
theorem lD{F1:bD}(hR:256≤Int.ofNat (r+1))(hW:W≤50)(hm:m≤1000)(i:Inv σ W m ll (.ofNat (r+1)) st a wh nn ED fin over urg ry pr L rd wait F P)
  {st0:Nat}{a0:aU}{wh0:eg}{Af:eA}{B0:ee}{F0 F2:bD}
  (e1:cU (ao fns (n+11)) true (aR cn.body 1) (cO σ bg k hfin uo now (.int (jQ hfin uo.isSome)) .unb .unb .unb) (hp s ⟨.ofNat (r+1),dl⟩ st0 a0 wh0 Af B0 F0)=some (.next,cO σ bg k hfin uo now (.int (jQ hfin uo.isSome)) (.ref g) .unb .unb,hp s ⟨.ofNat (r+1),dl⟩ st0 a0 wh0 Af B0 F1))
  (e2:ao fns (n+11) true 963 [.ref 8,.ref g,.int now] (hp s ⟨.ofNat (r+1),dl⟩ st0 a0 wh0 Af B0 F1)=some (.none,hp s ⟨.ofNat (r+1),dl⟩ st a wh (eG nn ED fin over urg ry pr) B0 F2))
  (e3:ao fns (n+11) true 1261 [.ref 51,.int bg,.bytes (sl σ bg k),.bool hfin,bS uo,.int now] (hp s ⟨.ofNat (r+1),dl⟩ st a wh (eG nn ED fin over urg ry pr) B0 F2)=some (.none,zS s r dl st a wh nn ED fin over urg ry pr L rd wait F)):
  eB n r dl s σ W (m+1) ll rd bg k hfin uo now (hp s ⟨.ofNat (r+1),dl⟩ st0 a0 wh0 Af B0 F0):=by
 obtain⟨a',wh',ED',F',j,jd,e4⟩:=answers (n:=n) (dl:=dl) (b:=true) (s:=s) (now:=now) (σ:=σ) (bg:=bg) (k:=k) (hfin:=hfin) (uo:=uo) (v7:= .int (jQ hfin uo.isSome)) (v8:= .ref g) (v9:= .unb) (v10:= .unb) hR hW hm i
 have h1:=j.rdn
 have h2:=j.nW
 obtain⟨F5,l5,e5⟩:=xI hR e1 e2 e3 e4 ⟨rfl,rfl,jd,j.Wt,rfl,rfl,j.ry,by rw[bq];exact Nat.le_trans (Nat.sub_le nn rd) (Nat.le_trans h2 (Nat.le_trans hW (by decide))),by rw[bq];show((nn - rd:Nat):Int)=(nn:Int) - rd;exact jw h1,fun u hu=>by have:=j.urg u hu;exact⟨yj (Int.le_trans (Int.le_of_lt this.2) (by decide)) (Int.natCast_nonneg rd),yj (Int.ofNat_le.mpr (Nat.le_trans h1 (Nat.le_trans h2 (Nat.le_trans hW (by decide))))) this.1⟩⟩
 have j':=j.le l5
 exact⟨st,a',wh',nn,ED',fin,over,dr urg rd,ry,pr,L,wait,F5,P,⟨j'.stok,j'.D,j'.Wt,j'.sb,j'.fin,xK j'.urg,j'.rdn,j'.nW,j'.ed,j'.ry,j'.pr,j'.ok,j'.hL,j'.hl,j'.rcv⟩,e5⟩
theorem eB.more {m' ll':Nat}{H:HH}(h:eB n r dl s σ W m ll rd bg k hfin uo now H)(hm:m≤m')(hl:ll≤ll'):eB n r dl s σ W m' ll' rd bg k hfin uo now H:=by
 obtain⟨st',a',wh',nn',ED',fin',over',urg',ry',pr',L',wait',F',P',i,e⟩:=h
 exact⟨st',a',wh',nn',ED',fin',over',urg',ry',pr',L',wait',F',P',⟨i.stok,i.D,i.Wt,fun j hj=>Nat.le_trans (i.sb j hj) hm,i.fin,i.urg,i.rdn,i.nW,i.ed,i.ry,i.pr,i.ok,i.hL,Nat.le_trans i.hl hl,i.rcv⟩,e⟩
theorem zT(hR:256≤Int.ofNat (r+1))(hW:W≤50)(hm:m+1≤1000)(i:Inv σ W m ll (.ofNat (r+1)) st a wh nn ED fin over urg ry pr L rd wait F P)(hst:st=186∨st=187∨st=189)(hk:k≤100):
  eB n r dl s σ W (m+2) ll rd bg k hfin uo now (zS s r dl st a wh nn ED fin over urg ry pr L rd wait F):=by
 have hR0:Int.ofNat (r+1)≠0:=om hR
 obtain⟨F1,g,l1,hs,e1⟩:=HN (n:=n+10) (b:=true) (s:=s) (c:=⟨.ofNat (r+1),dl⟩) (st:=st) (a:=a) (wh:=wh) (rc:=eG nn ED fin over urg ry pr) (B:=eY L nn fin over ED rd a st wait urg) (F:=F) (σ:=σ) (bg:=bg) (k:=k) (hfin:=hfin) (uo:=uo) (now:=now) (v8:= .unb) (v9:= .unb) (v10:= .unb) hR0
 obtain⟨wh',h1,h2,h3,e2⟩:=zO (n:=n+7) (b:=true) (s:=s) (c:=⟨.ofNat (r+1),dl⟩) (a:=a) (wh:=wh) (rc:=eG nn ED fin over urg ry pr) (B:=eY L nn fin over ED rd a st wait urg) (now:=now) hs (bM (Nat.le_trans hk (by decide))) hst i.sb (Nat.le_trans (Nat.le_add_right m 1) hm)
 obtain⟨F3,l3,e3⟩:=HJ (n:=n+10) (b:=true) (s:=s) (c:=⟨.ofNat (r+1),dl⟩) (st:=st) (a:=dh (decide (0<bz ((sl σ bg k).length:Int) hfin)) a) (wh:=wh') (rc:=eG nn ED fin over urg ry pr) (B:=eY L nn fin over ED rd a st wait urg) (F:=F1) (σ:=σ) (bg:=bg) (k:=k) (hfin:=hfin) (uo:=uo) (now:=now) (Nat.le_trans hk (by decide)) hst
 rw[bq]at e2 e3
 have l:=l1.trans l3
 refine lD (wait:=match Nat.beq st 189&&hfin with|true=>some (now+7)|false=>wait) hR hW (hm) ⟨i.stok,?_,?_,h1,i.fin,i.urg,i.rdn,i.nW,i.ed,l _ _ i.ry,l _ _ i.pr,i.ok,i.hL,i.hl,fun h=> ?_⟩ e1 e2 e3
 ·intro h
  rw[h2]
  refine i.D ?_
  unfold dh at h
  cases hq:decide (0<bz (k:Int) hfin)<;>(rw[hq]at h;exact h)
 ·rw[h3]
  cases Nat.beq st 189&&hfin with
  |true=>rfl
  |false=>exact i.Wt
 ·rcases hst with rfl|rfl|rfl<;>rcases h with h|h|h<;>cases h
theorem FR{rp rd' bg':Int}(h:rp=rd'):AL uo.isSome urg rp (bg'+jr uo)=dw uo urg rd' bg':=by
 subst h
 cases uo<;>rfl
theorem AN{rd' bg':Int}(h: ∀u,urg=some u→0≤u∧u<60)(hb:0≤bg'∧bg'≤50)(hu: ∀u,uo=some u→0≤u∧u≤6): ∀u,dw uo urg rd' bg'=some u→0≤u∧u<60:=by
 intro w hw
 cases uo with
 |none=>exact h w hw
 |some u=>
  have:=hu u rfl
  unfold dw jl at hw
  dsimp only at hw
  cases hd:tR urg rd' (bg'+u)with
  |true=>rw[hd]at hw;cases hw;exact⟨Int.add_nonneg hb.1 this.1,Int.lt_of_le_of_lt (Int.add_le_add hb.2 this.2) (by decide)⟩
  |false=>rw[hd]at hw;exact h w hw
theorem AO(hR:256≤Int.ofNat (r+1))(hW:W≤50)(i:Inv σ W m ll (.ofNat (r+1)) st a wh nn ED fin false urg ry pr L rd wait F P)(hbg:bg≤W)(hu: ∀u,uo=some u→0≤u∧u≤6){F1:bD}(l1:F.Le F1)(hs:dv F1 g (num (Int.ofNat (r+1)) bg) hfin uo.isSome (jr uo) (sl σ bg k)):
  cU (ao fns (n+8)) true (aR dz.body 2) [.ref 8,.ref g,.int now,.ref 45,.unb,.unb,.unb] (hp s ⟨.ofNat (r+1),dl⟩ st a wh (eG nn ED fin false urg ry pr) (eY L nn fin false ED rd a st wait urg) F1)=
   some (.next,[.ref 8,.ref g,.int now,.ref 45,.unb,.unb,.unb],hp s ⟨.ofNat (r+1),dl⟩ st a wh (eG nn ED fin false (dw uo urg rd bg) ry pr) (eY L nn fin false ED rd a st wait urg) F1):=by
 have h1:=i.rdn
 have h2:=i.nW
 have kb:0≤jr uo∧jr uo≤6:=by
  cases uo with
  |none=>exact⟨Int.le_refl _,by decide⟩
  |some u=>exact hu u rfl
 have e0:(eG nn ED fin false urg ry pr).nx - behind (eG nn ED fin false urg ry pr) (sl σ rd (nn - rd)).length=(rd:Int):=by
  rw[bq]
  show(nn:Int) - (((nn - rd:Nat):Int)+0)=rd
  rw[Int.add_zero,jw h1,Int.sub_sub_self]
 have rb:(rd:Int)≤67:=Int.ofNat_le.mpr (Nat.le_trans h1 (Nat.le_trans h2 (Nat.le_trans hW (by decide))))
 have bb:(bg:Int)+jr uo≤67:=Int.le_trans (Int.add_le_add (Int.ofNat_le.mpr (Nat.le_trans hbg hW)) kb.2) (by decide)
 have b0:0≤(bg:Int)+jr uo:=Int.add_nonneg (Int.natCast_nonneg bg) kb.1
 have e:=FH (n:=n) (s:=s) (c:=⟨.ofNat (r+1),dl⟩) (st:=st) (a:=a) (wh:=wh) (rc:=eG nn ED fin false urg ry pr) (B:=eY L nn fin false ED rd a st wait urg) (now:=now) hR hs (l1 _ _ i.ry) (bM (Nat.le_trans (Nat.sub_le nn rd) (Nat.le_trans h2 (Nat.le_trans hW (by decide))))) (by rw[e0];exact yj rb b0) (by rw[e0];exact yj bb (Int.natCast_nonneg rd)) (fun u hq=>have:=i.urg u hq;⟨yj (Int.le_trans (Int.le_of_lt this.2) (by decide)) b0,yj bb this.1⟩)
 rw[FR e0]at e
 exact e
theorem step_empty(hR:256≤Int.ofNat (r+1))(hW:W≤50)(hm:m≤1000)(i:Inv σ W m ll (.ofNat (r+1)) st a wh nn ED fin false urg ry pr L rd wait F P)(hst:st=183∨st=184∨st=185)(hbg:bg≤W)(hu: ∀u,uo=some u→0≤u∧u≤6):
  eB n r dl s σ W (m+1) ll rd bg 0 false uo now (zS s r dl st a wh nn ED fin false urg ry pr L rd wait F):=by
 have hR0:Int.ofNat (r+1)≠0:=om hR
 obtain⟨F1,g,l1,hs,e1⟩:=HN (n:=n+10) (b:=true) (s:=s) (c:=⟨.ofNat (r+1),dl⟩) (st:=st) (a:=a) (wh:=wh) (rc:=eG nn ED fin false urg ry pr) (B:=eY L nn fin false ED rd a st wait urg) (F:=F) (σ:=σ) (bg:=bg) (k:=0) (hfin:=false) (uo:=uo) (now:=now) (v8:= .unb) (v9:= .unb) (v10:= .unb) hR0
 have e2:=rh (n:=n+2) hst hs (AO (n:=n+2) (dl:=dl) (s:=s) (now:=now) hR hW i hbg hu l1 hs)
 obtain⟨F3,l3,e3⟩:=zQ (n:=n+10) (b:=true) (s:=s) (c:=⟨.ofNat (r+1),dl⟩) (st:=st) (a:=a) (wh:=wh) (rc:=eG nn ED fin false (dw uo urg rd bg) ry pr) (B:=eY L nn fin false ED rd a st wait urg) (F:=F1) (bg:=bg) (uo:=uo) (now:=now) hst (Int.natCast_nonneg rd)
 have l:=l1.trans l3
 exact lD hR hW hm ⟨i.stok,i.D,i.Wt,i.sb,i.fin,AN i.urg ⟨Int.natCast_nonneg bg,Int.ofNat_le.mpr (Nat.le_trans hbg hW)⟩ hu,i.rdn,i.nW,i.ed,l _ _ i.ry,l _ _ i.pr,i.ok,i.hL,i.hl,i.rcv⟩ e1 e2 e3
theorem p5 (hst:st=183∨st=184∨st=185):qW (gP st)∧ ¬(gP st=183∨gP st=184∨gP st=185):=by
 rcases hst with rfl|rfl|rfl
 ·exact⟨.inr (.inr (.inr (.inl rfl))),by decide⟩
 ·exact⟨.inr (.inr (.inr (.inr (.inl rfl)))),by decide⟩
 ·exact⟨.inr (.inr (.inr (.inr (.inr rfl)))),by decide⟩
theorem mM{x:Bool}(h:(dh x a).due=none):a.due=none:=by cases x<;>exact h
theorem rj{x:Bool}{dl:Int}(h:(eF x dl a io now hh).due=none):a.due=none:=by
 cases x with
 |false=>exact h
 |true=>
  unfold eF jj at h
  dsimp only at h
  cases hq:gv dl a io hh with
  |true=>rw[hq]at h;exact h
  |false=>rw[hq]at h;cases h
end
section
variable{n r:Nat}{dl:Int}{b io hh hfin:Bool}{s:MO}{st:Nat}{a:aU}{wh:eg}{F:bD}{now:Int}{σ:Nat→UInt8}{bg k kk W m ll nn ED rd ry pr g:Nat}{uo fin urg wait:Option Int}{over:Bool}{L:List Nat}{P:jP}
theorem FT(bg k te:Nat): ∃kk,pT bg k te kk∧kk≤k:=by
 rcases Nat.lt_or_ge bg te with h|h
 ·rcases Nat.lt_or_ge (te - bg) k with h'|h'
  ·exact⟨te - bg,.inr ⟨h,.inr ⟨Nat.le_of_lt h',rfl⟩⟩,Nat.le_of_lt h'⟩
  ·exact⟨k,.inr ⟨h,.inl ⟨h',rfl⟩⟩,Nat.le_refl _⟩
 ·exact⟨0,.inl ⟨h,rfl⟩,Nat.zero_le _⟩
theorem xM(hR:256≤Int.ofNat (r+1))(hW:W≤30)(hm:m+1≤1000)(hll:ll≤100)(i:Inv σ W m ll (.ofNat (r+1)) st a wh nn ED fin false urg ry pr L rd none F P)(hst:st=183∨st=184∨st=185)(hbg:bg≤W)(hb:bg≤nn+2)(hkW:bg+k≤W)(hf:hfin=true→bg+k=W)
  (hne:0<k∨hfin=true)(hu: ∀u,uo=some u→0≤u∧u≤6):
  eB n r dl s σ W (m+2) (ll+k) rd bg k hfin uo now (zS s r dl st a wh nn ED fin false urg ry pr L rd none F):=by
 have hR0:Int.ofNat (r+1)≠0:=om hR
 have hrd:=i.rdn
 have hnW:=i.nW
 have hed:=i.ed
 obtain⟨kk,hi,hkk⟩:=FT bg k ED
 obtain⟨F1,g,l1,hs,e1⟩:=HN (n:=n+10) (b:=true) (s:=s) (c:=⟨.ofNat (r+1),dl⟩) (st:=st) (a:=a) (wh:=wh) (rc:=eG nn ED fin false urg ry pr) (B:=eY L nn fin false ED rd a st none urg) (F:=F) (σ:=σ) (bg:=bg) (k:=k) (hfin:=hfin) (uo:=uo) (now:=now) (v8:= .unb) (v9:= .unb) (v10:= .unb) hR0
 obtain⟨n',P',F2,pr',wh',q1,q2,q3,q4,q5,q6,e2⟩:=xw (n:=n+2) (s:=s) (c:=⟨.ofNat (r+1),dl⟩) (st:=st) (a:=a) (wh:=wh) (B:=eY L nn fin false ED rd a st none urg) (F:=F1) (σ:=σ) (hu:=uo.isSome) (ur:=jr uo) (now:=now) (TE:=ED) (ua:=urg) (ua1:=dw uo urg rd bg) (ry:=ry) (pr:=pr)
  hst hR (Nat.le_trans hW (by decide)) hnW i.ok hb hkW hf i.fin (Nat.le_trans hed (Nat.le_trans (Nat.add_le_add_right (Nat.le_trans hrd (Nat.le_trans hnW hW)) 16) (by decide))) hi (by rw[bq];exact Nat.le_trans (Nat.sub_le nn rd) (Nat.le_trans hnW (Nat.le_trans hW (by decide)))) (l1 _ _ i.pr) (l1 _ _ i.ry) hne hs i.sb (Nat.le_trans (Nat.le_add_right m 1) hm) (AO (n:=n+2) (dl:=dl) (s:=s) (now:=now) hR (Nat.le_trans hW (by decide)) i hbg hu l1 hs)
 obtain⟨F3,L',l3,hL',hl',e3⟩:=FO (n:=n+9) (b:=true) (s:=s) (c:=⟨.ofNat (r+1),dl⟩) (st:=match cZ (bj fin hfin kk k W) n' W with|true=>gP st|false=>st)
  (a:=dh (cZ (bj fin hfin kk k W) n' W) (dh (decide (n' - nn=0)||hfin) (eF (decide (0<k)) dl a (decide ((bg:Int)≤nn)) now P'.isSome))) (wh:=wh') (rc:=eG n' ED (bj fin hfin kk k W) (cZ (bj fin hfin kk k W) n' W) (dw uo urg rd bg) ry pr') (F:=F2) (σ:=σ) (uo:=uo) (now:=now) (urg:=urg) (ba:=a)
  hst (Int.natCast_nonneg rd) (Nat.le_trans hW (by decide)) hnW hkW hf i.fin hi hne i.hL (Nat.le_trans i.hl hll) q1
 have hry:F3.at ry=some (.barr (sl σ rd (n' - rd))):=by
  rw[l3 _ _ q2]
  have h1:=q1.le
  have:=qY (σ:=σ) (n:=nn - rd) (p:=rd) (m:=n' - nn)
  rw[Nat.add_sub_of_le hrd]at this
  rw[this,show nn - rd+(n' - nn)=n' - rd from D0 hrd h1]
 refine(lD hR (Nat.le_trans hW (by decide)) hm ⟨?_,?_,?_,q4,jo i.fin,AN i.urg ⟨Int.natCast_nonneg bg,Int.ofNat_le.mpr (Nat.le_trans hbg (Nat.le_trans hW (by decide)))⟩ hu,Nat.le_trans hrd q1.le,q1.leW,hed,hry,l3 _ _ q3,q1.ok,hL',Nat.le_trans hl' (Nat.add_le_add i.hl hkk),?_⟩ e1 e2 e3)
 ·cases cZ (bj fin hfin kk k W) n' W with
  |true=>exact(p5 hst).1
  |false=>exact i.stok
 ·intro h
  rw[q5]
  exact i.D (rj (mM (mM h)))
 ·rw[q6]
  cases cZ (bj fin hfin kk k W) n' W&&Nat.beq st 185 with
  |true=>rfl
  |false=>exact i.Wt
 ·cases cZ (bj fin hfin kk k W) n' W with
  |true=>exact fun h=>absurd h (p5 hst).2
  |false=>exact fun _=>⟨rfl,rfl⟩
end
section
variable{n r:Nat}{dl:Int}{b io hh hfin:Bool}{s:MO}{st:Nat}{a:aU}{wh:eg}{F:bD}{H:HH}{now:Int}{σ:Nat→UInt8}{bg k kk W m ll nn ED rd ry pr g:Nat}{uo fin urg wait:Option Int}{over:Bool}{L:List Nat}{P:jP}
noncomputable def HS(k nn rd j:Nat):Prop:=(k≤nn - rd∧j=k)∨(nn - rd≤k∧j=nn - rd)
theorem FU(k nn rd:Nat): ∃j,HS k nn rd j:=by
 rcases Nat.le_total k (nn - rd)with h|h
 ·exact⟨k,.inl ⟨h,rfl⟩⟩
 ·exact⟨nn - rd,.inr ⟨h,rfl⟩⟩
theorem rk(hW:W≤30)(hk:k≤9)(i:Inv σ W m ll (.ofNat (r+1)) st a wh nn ED fin over urg ry pr L rd wait F P):
  iX fun rd' ry' F'=>Inv σ W m ll (.ofNat (r+1)) st a wh nn ED fin over urg ry' pr L rd' wait F' P∧
   ao fns (n+2) b 1280 [.ref 8,.ref 51,.bytes (sl σ 0 W),.int k] (zS s r dl st a wh nn ED fin over urg ry pr L rd wait F)=some (.bool true,zS s r dl st a wh nn ED fin over urg ry' pr L rd' wait F'):=by
 obtain⟨j,hj⟩:=FU k nn rd
 have h1:=i.rdn
 have h2:=i.nW
 have h3:=i.ed
 have hj1:j≤nn - rd:=hj.elim (fun h=>h.2▸h.1) fun h=>Nat.le_of_eq h.2
 have hle:rd+j≤nn:=Nat.add_le_of_le_sub' h1 hj1
 have hjW:=Nat.le_trans hle h2
 have hjk:j≤1000:=Nat.le_trans (Nat.le_add_left j rd) (Nat.le_trans hjW (Nat.le_trans hW (by decide)))
 have t1:(sl σ rd (nn - rd)).take k=sl σ rd j:=by
  rcases hj with⟨h,rfl⟩|⟨h,rfl⟩
  ·exact gE h
  ·exact List.take_of_length_le (by rw[bq];exact h)
 have t2:(sl σ rd (nn - rd)).drop k=sl σ (rd+j) (nn - (rd+j)):=by
  rcases hj with⟨h,rfl⟩|⟨h,rfl⟩
  ·rw[gF h,Nat.sub_sub]
  ·rw[List.drop_of_length_le (by rw[bq];exact h),Nat.add_sub_of_le h1,Nat.sub_self]
   rfl
 have e1:=Fd (n:=n) (b:=b) (s:=s) (c:=⟨.ofNat (r+1),dl⟩) (st:=st) (a:=a) (wh:=wh) (rc:=eG nn ED fin over urg ry pr) (B:=eY L nn fin over ED rd a st wait urg) (k:=k) i.ry (bM (Nat.le_trans (Nat.sub_le nn rd) (Nat.le_trans h2 (Nat.le_trans hW (by decide)))))
 rw[t1,t2]at e1
 have mn: ∀H,cu b .min [.int (nn:Int),.int ((rd:Int)+k)] H=some (.int ((rd+j:Nat):Int),H):=fun H=>by
  show some (MV.int (if(rd:Int)+k<nn then(rd:Int)+k else nn),H)=_
  rcases hj with⟨h,rfl⟩|⟨h,rfl⟩
  ·by_cases q:(rd:Int)+j<nn
   ·rw[if_pos q];rfl
   ·rw[if_neg q,show(nn:Int)=((rd+j:Nat):Int)from mY (Nat.le_antisymm (Nat.not_lt.mp fun g=>q (Int.ofNat_lt.mpr g)) hle)]
  ·rw[if_neg (show¬(rd:Int)+k<nn from Int.not_lt.mpr (Int.ofNat_le.mpr (Nat.sub_le_iff_le_add'.mp h))),Nat.add_sub_of_le h1]
 have sc: ∀H,dX (.bytes (sl σ 0 W)) (.int (rd:Int)) (.int ((rd+j:Nat):Int)) H=some (.bytes (sl σ rd j),H):=fun H=>by
  rw[nL (bM (Nat.le_trans hW (by decide))) (by rw[bq];exact Nat.le_trans h1 h2) (Nat.le_add_right _ _),Nat.add_sub_cancel_left,gF (Nat.le_trans h1 h2),Nat.zero_add,gE (Nat.le_sub_of_add_le' hjW)]
 have ln: ∀H,cu b .len [.bytes (sl σ rd j)] H=some (.int j,H):=fun H=>by rw[bc (bM (HY hjk)),bq]
 have eq: ∀H,aI .eq (.bytes (sl σ rd j)) (.bytes (sl σ rd j)) H=some true:=fun H=>congrArg some (decide_eq_true rfl)
 have l:F.Le ((F.app [.barr (sl σ rd j)]).app [.barr (sl σ (rd+j) (nn - (rd+j)))]):=le_app.trans le_app
 refine⟨rd+j,(F.app [.barr (sl σ rd j)]).next,_,⟨i.stok,i.D,i.Wt,i.sb,i.fin,i.urg,hle,i.nW,Nat.le_trans h3 (Nat.add_le_add_right (Nat.le_add_right rd j) 16),aH,l _ _ i.pr,i.ok,i.hL,i.hl,i.rcv⟩,?_⟩
 apply aw (F:=uE) (loc:=[.ref 8,.ref 51,.bytes (sl σ 0 W),.int k,.unb,.unb]) rfl rfl rfl rfl;unfold uE;dsimp only
 apply ae;apply aA;apply ax;apply ah;exact ab rfl;exact lk;exact Cr;apply aa;exact ab rfl;exact af;exact e1;exact ik;apply ae;apply aA;apply eV;exact ab rfl;apply az;exact ab rfl;exact aq;exact t7;apply aP;apply aa;apply az;exact ab rfl;exact aq;exact pC;apply aa;apply aF;apply az;exact ab rfl;exact aq;exact t7;exact ab rfl;exact rfl;exact af;exact mn _;exact sc _;exact t6;apply ae;apply aA;apply aF;apply az;exact ab rfl;exact aq;exact t7;apply aP;apply aa;exact ab rfl;exact af;exact ln _;exact rfl;apply bp;exact ab rfl;exact aq;exact Iv;apply aM;apply au;exact ab rfl;exact ab rfl;exact eq _
end
section
variable{n:Nat}{b:Bool}{H:HH}{x y top:Int}
noncomputable def bT(x y:Int):MO:= .list [.int x,.int y]
theorem sy(h:H[0]? =some (bT x y)):bN (.ref 0) (.int 0) H=some (.int x):=by
 show(match H[0]? with|some c=>_|none=>none)=_
 rw[h]
 rfl
theorem AP(h:H[0]? =some (bT x y)):bN (.ref 0) (.int 1) H=some (.int y):=by
 show(match H[0]? with|some c=>_|none=>none)=_
 rw[h]
 rfl
theorem C7 {v:Int}(h:H[0]? =some (bT x y)):cT (.ref 0) (.int 0) (.int v) H=some (H.set 0 (bT v y)):=by
 show(match H[0]? with|some (.list xs)=>_|some (.dictS es)=>_|some (.dictI es)=>_|_=>none)=_
 rw[h]
 rfl
theorem C8 {v:Int}(h:H[0]? =some (bT x y)):cT (.ref 0) (.int 1) (.int v) H=some (H.set 0 (bT x v)):=by
 show(match H[0]? with|some (.list xs)=>_|some (.dictS es)=>_|some (.dictI es)=>_|_=>none)=_
 rw[h]
 rfl
theorem sz{z d:Int}(h0:d≠0)(h1:d.natAbs<1073741824):cI .fdiv (.int z) (.int d) H=some (.int (z.fdiv d),H):=by
 show(if d=0||decide (1073741824≤d.natAbs)then none else some (MV.int (z.fdiv d),H))=_
 rw[if_neg (by
  rw[Bool.or_eq_true,decide_eq_true_eq,decide_eq_true_eq]
  intro h
  rcases h with h|h
  ·exact h0 h
  ·exact absurd h1 (Nat.not_lt.mpr h))]
theorem lE{z d:Int}(h:d.natAbs<2 ^ 64):cI .mul (.int z) (.int d) H=some (.int (z*d),H):=by
 show(if nZ z d=true then some (MV.int (z*d),H)else none)=_
 rw[if_pos (by unfold nZ;rw[decide_eq_true h,Bool.or_true])]
theorem xN(h:H[0]? =some (bT x y))(ht:0<top)(ht':top<1000):iX fun d x' y'=>bx (0≤d) (d<top) (ao fns (n+1) b 1221 [.ref 0,.int top] H=some (.int d,H.set 0 (bT x' y'))):=by
 have hs: ∀o,(H.set 0 o)[0]? =some o:=fun o=>List.getElem?_set_self (List.getElem?_eq_some_iff.mp h).1
 have ii: ∀H (v:Int),cu b .int [.int v] H=some (.int v,H):=fun H v=>rfl
 have f1: ∀H v,cI .fmod (.int v) (.int top) H=some (.int (v.fmod top),H):=fun H v=>dO (Int.ne_of_gt ht)
 by_cases hx:0<x
 ·have z: ∀H,aI .gt (.int x) (.int 0) H=some true:=fun H=>congrArg some (decide_eq_true hx)
  refine⟨x.fmod top,x.fdiv top,y,Int.fmod_nonneg_of_pos x ht,Int.fmod_lt_of_pos x ht,?_⟩
  apply aw (F:=oh) (loc:=[.ref 0,.int top,.unb]) rfl rfl rfl rfl;unfold oh;dsimp only
  apply bE (e:= .cmp _ _ _);apply au;apply az;exact ab rfl;exact aq;exact sy h;exact aq;exact z _;apply ae;apply aA;apply aF;apply aP;apply aa;apply az;exact ab rfl;exact aq;exact sy h;exact af;exact ii _ _;exact ab rfl;exact f1 _ _;exact nD;apply ae;apply aA;apply aF;apply az;exact ab rfl;exact aq;exact sy h;exact ab rfl;exact sz (Int.ne_of_gt ht) (by omega);apply bp;exact ab rfl;exact aq;exact C7 h;apply aM;exact ab rfl
 ·have z: ∀H,aI .gt (.int x) (.int 0) H=some false:=fun H=>congrArg some (decide_eq_false hx)
  have m1: ∀H,cI .fmod (.int (y*39373+7)) (.int 2147483647) H=some (.int ((y*39373+7).fmod 2147483647),H):=fun H=>dO (by decide)
  have b0:0≤(y*39373+7).fmod 2147483647:=Int.fmod_nonneg_of_pos _ (by decide)
  have b1:(y*39373+7).fmod 2147483647<2147483647:=Int.fmod_lt_of_pos _ (by decide)
  generalize hw:(y*39373+7).fmod 2147483647=w at m1 b0 b1
  have m2: ∀H,cI .fmod (.int (w*w)) (.int 2147483629) H=some (.int ((w*w).fmod 2147483629),H):=fun H=>dO (by decide)
  refine⟨(((w*w).fmod 2147483629).fdiv 32).fmod top,x,w,Int.fmod_nonneg_of_pos _ ht,Int.fmod_lt_of_pos _ ht,?_⟩
  have s1: ∀H',H'[0]? =some (bT x w)→bN (.ref 0) (.int 1) H'=some (.int w):=fun H' h'=>AP h'
  apply aw (F:=oh) (loc:=[.ref 0,.int top,.unb]) rfl rfl rfl rfl;unfold oh;dsimp only
  apply ae;apply aC;apply au;apply az;exact ab rfl;exact aq;exact sy h;exact aq;exact z _;exact ar;apply ae;apply aA;apply aF;apply aP;apply aa;apply aF;apply aF;apply az;exact ab rfl;exact aq
  exact AP h;exact aq;exact lE (by decide);exact aq;exact rfl;exact af;exact ii _ _;exact aq;exact m1 _;apply bp;exact ab rfl;exact aq;exact C8 h;apply aM;apply aF;apply aP;apply aa;apply aF;apply aF;apply aP;apply aa;apply aF;apply az;exact ab rfl;exact aq;exact s1 _ (hs _);apply az;exact ab rfl;exact aq;exact s1 _ (hs _);exact lE (by omega);exact af;exact ii _ _;exact aq;exact m2 _;exact aq;exact sz (by decide) (by decide);exact af;exact ii _ _;exact ab rfl;exact f1 _ _
end
section
variable{n r:Nat}{dl:Int}{b io hh hfin:Bool}{s:MO}{st:Nat}{a:aU}{wh:eg}{F:bD}{H:HH}{now x y:Int}{σ:Nat→UInt8}{bg k kk W m ll nn ED rd ry pr g:Nat}{uo fin urg wait:Option Int}{over:Bool}{L:List Nat}{P:jP}{c:fw}{rc:eA}{B:ee}
theorem p6 {i:Nat}{xs:List MV}(h:H[0]? =some (bT x y))(hi:H[i]? =some (.list xs))(hne:i≠0)(hl:0<xs.length)(hl':xs.length<1000):
  iX fun v x' y'=>v∈xs∧ao fns (n+2) b 1228 [.ref 0,.ref i] H=some (v,H.set 0 (bT x' y')):=by
 obtain⟨d,x',y',h0,h1,e⟩:=xN (n:=n) (b:=b) (top:=(xs.length:Int)) h (u1 hl) (by omega)
 obtain⟨j,rfl⟩: ∃j:Nat,d=(j:Int):=⟨d.toNat,(Int.toNat_of_nonneg h0).symm⟩
 have hj:j<xs.length:=by omega
 have hi':(H.set 0 (bT x' y'))[i]? =some (.list xs):=by rw[List.getElem?_set_ne (Ne.symm hne)];exact hi
 have ln:cu b .len [.ref i] H=some (.int (xs.length:Int),H):=by
  have e:iZ (.ref i) H=some xs.length:=by
   unfold iZ
   dsimp only
   rw[hi]
  show(match iZ (.ref i) H with|some n=>_|none=>none)=_
  rw[e]
  exact if_pos (Nat.ble_eq_true_of_le (by omega))
 have sb:bN (.ref i) (.int (j:Int)) (H.set 0 (bT x' y'))=some xs[j]:=by
  show(match(H.set 0 (bT x' y'))[i]? with|some c=>_|none=>none)=_
  rw[hi']
  show(match cJ xs.length (j:Int)with|some i=>xs[i]? |none=>none)=_
  unfold cJ
  rw[if_pos (decide_eq_true (by omega)),if_pos (h0),if_pos (h1)]
  exact List.getElem?_eq_getElem hj
 refine⟨xs[j],x',y',List.getElem_mem hj,?_⟩
 apply aw (F:=uB) (loc:=[.ref 0,.ref i]) rfl rfl rfl rfl;unfold uB;dsimp only
 apply aM;apply az;exact ab rfl;apply aB;apply aa;exact ab rfl;apply aa;apply aP;apply aa;exact ab rfl;exact af;exact ln;exact af;exact e;exact sb
end
noncomputable def zU(s:MO):HH:=[s,.list [.int 256,.int 4294967296],.list [.int 3,.int 9,.int 15,.int 16,.int 22],.list [.str 183,.str 183,.str 184,.str 185,.str 186,.str 189],.list [.int 0,.int 2,.int 3]]
noncomputable abbrev zV (s:MO)(r:Nat)(dl:Int)(st:Nat):HH:=hp s ⟨.ofNat (r+1),dl⟩ st ⟨0,none,false⟩ ⟨none,none,false,fun _=>[],0⟩ ⟨0,16,none,false,none,46,49⟩ ⟨[],0,none,false,16,0,⟨0,none,false⟩,st,none,none⟩ ⟨.barr [],.list [],[]⟩
section
variable{n:Nat}{s:MO}{st:Nat}{dl:Int}
theorem zW:ao fns (n+12) true 1235 [.int 256,.str st,.int dl] (zU s)=some (.ref 52,zV s 255 dl st):=by kernel_rfl
theorem zX:ao fns (n+12) true 1235 [.int 4294967296,.str st,.int dl] (zU s)=some (.ref 52,zV s 4294967295 dl st):=by kernel_rfl
end
section
variable{n r:Nat}{dl:Int}{s s':MO}{st:Nat}{a:aU}{wh:eg}{F:bD}{σ:Nat→UInt8}{W nn ED rd ry pr:Nat}{fin urg wait:Option Int}{over:Bool}{L:List Nat}{R:Int}
theorem HT(hst:qW st):Inv σ W 0 0 R st ⟨0,none,false⟩ ⟨none,none,false,fun _=>[],0⟩ 0 16 none false none 46 49 [] 0 none ⟨.barr [],.list [],[]⟩ none:=
 ⟨hst,fun _=>rfl,rfl,fun _ _=>Nat.le_refl _,.inl rfl,fun _ h=>(by cases h),Nat.le_refl _,Nat.zero_le _,Nat.le_refl _,rfl,rfl,fQ,fun x=>⟨fun h=>(by cases h),fun h=>h.elim (fun h=>absurd h (Nat.not_lt_zero x)) (fun h=>h.elim)⟩,Nat.le_refl _,fun _=>⟨rfl,rfl⟩⟩
end
structure tV where
 st:Nat
 a:aU
 wh:eg
 nn:Nat
 ED:Nat
 fin:Option Int
 over:Bool
 urg:Option Int
 ry:Nat
 pr:Nat
 L:List Nat
 rd:Nat
 wait:Option Int
 F:bD
 P:jP
noncomputable def iY(s:MO)(r:Nat)(dl:Int)(z:tV):HH:=zS s r dl z.st z.a z.wh z.nn z.ED z.fin z.over z.urg z.ry z.pr z.L z.rd z.wait z.F
noncomputable def jt(σ:Nat→UInt8)(W m ll:Nat)(R:Int)(z:tV):Prop:=Inv σ W m ll R z.st z.a z.wh z.nn z.ED z.fin z.over z.urg z.ry z.pr z.L z.rd z.wait z.F z.P
noncomputable def tV.wF (z:tV)(F:bD):tV:={z with F:=F}
theorem jt.le {σ:Nat→UInt8}{W m ll:Nat}{R:Int}{z:tV}{F:bD}(h:jt σ W m ll R z)(l:z.F.Le F):jt σ W m ll R (z.wF F):=Inv.le h l
theorem jt.more {σ:Nat→UInt8}{W m ll ll':Nat}{R:Int}{z:tV}(h:jt σ W m ll R z)(l:ll≤ll'):jt σ W m ll' R z:=
 ⟨h.stok,h.D,h.Wt,h.sb,h.fin,h.urg,h.rdn,h.nW,h.ed,h.ry,h.pr,h.ok,h.hL,Nat.le_trans h.hl l,h.rcv⟩
section
variable{n r:Nat}{dl x y:Int}{b:Bool}{z:tV}{loc:Loc}{es:gy}{xs:List MV}
theorem xO{top:Int}(h0:0<top)(h1:top<1000):iX fun d x' y'=>bx (0≤d) (d<top) (ao fns (n+1) b 1221 [.ref 0,.int top] (iY (bT x y) r dl z)=some (.int d,iY (bT x' y') r dl z)):=
 xN (n:=n) (b:=b) (H:=iY (bT x y) r dl z) (x:=x) (y:=y) (top:=top) rfl h0 h1
theorem sA(g:bU loc 0=some (.ref 0))(h:dT (ao fns (n+2)) b es loc (iY (bT x y) r dl z)=some (xs,iY (bT x y) r dl z))(hl:0<xs.length)(hl':Nat.ble xs.length 900=true):
  iX fun v x' y'=>v∈xs∧bo (ao fns (n+2)) b (.call 1228 (.cons (.l 0) (.cons (.lst es) .nil))) loc (iY (bT x y) r dl z)=some (v,iY (bT x' y') r dl (z.wF (z.F.app [.list xs]))):=by
 have hb:=Nat.le_of_ble_eq_true hl'
 obtain⟨v,x',y',k1,e⟩:=p6 (n:=n) (b:=b) (H:=iY (bT x y) r dl (z.wF (z.F.app [.list xs]))) (x:=x) (y:=y) (i:=z.F.next) rfl (dg aH) (by unfold bD.next;omega) hl (Nat.lt_of_le_of_lt hb (by decide))
 exact⟨v,x',y',k1,aB (aa (ab g) (aa (g8 h (Nat.ble_eq_true_of_le (Nat.le_trans hb (by decide)))) af)) e⟩
end
section
variable{n r:Nat}{dl x y:Int}{s:MO}{b:Bool}{st:Nat}{a:aU}{wh:eg}{F:bD}{nn ED rd ry pr W m ll bg k:Nat}{fin urg wait uo:Option Int}{over hfin:Bool}{L:List Nat}{P:jP}{σ:Nat→UInt8}{now:Int}
theorem xP(hR:256≤Int.ofNat (r+1))(hW:W≤30)(hm:m+1≤1000)(hll:ll≤100)(i:Inv σ W m ll (.ofNat (r+1)) st a wh nn ED fin over urg ry pr L rd wait F P)(hbg:bg≤W)(hb:bg≤nn+2)(hkW:bg+k≤W)(hf:hfin=true→bg+k=W)
  (hu: ∀u,uo=some u→0≤u∧u≤6):eB n r dl s σ W (m+2) (ll+k) rd bg k hfin uo now (zS s r dl st a wh nn ED fin over urg ry pr L rd wait F):=by
 rcases i.stok with h|h|h|h|h|h
 iterate 3
  ·have hst:st=183∨st=184∨st=185:=by first|exact .inl h|exact .inr (.inl h)|exact .inr (.inr h)
   obtain⟨h1,h2⟩:=i.rcv hst
   subst h1 h2
   by_cases hne:0<k∨hfin=true
   ·exact xM hR hW hm hll i hst hbg hb hkW hf hne hu
   ·obtain rfl:k=0:=by
     rcases Nat.eq_zero_or_pos k with h|h
     ·exact h
     ·exact absurd (.inl h) hne
    obtain rfl:hfin=false:=by
     cases hfin with
     |false=>rfl
     |true=>exact absurd (.inr rfl) hne
    exact(step_empty hR (Nat.le_trans hW (by decide)) (Nat.le_trans (Nat.le_add_right m 1) hm) i hst hbg hu).more (Nat.add_le_add_right (Nat.le_add_right m 1) 1) (Nat.le_add_right ll 0)
 iterate 3
  ·have hst:st=186∨st=187∨st=189:=by first|exact .inl h|exact .inr (.inl h)|exact .inr (.inr h)
   exact(zT hR (Nat.le_trans hW (by decide)) hm i hst (Nat.le_trans (Nat.le_add_left k bg) (Nat.le_trans hkW (Nat.le_trans hW (by decide))))).more (Nat.le_refl (m+2)) (Nat.le_add_right ll k)
end
section
variable{n r:Nat}{dl x y:Int}{s:MO}{b:Bool}{z:tV}{W m ll bg k nn:Nat}{uo:Option Int}{hfin:Bool}{σ:Nat→UInt8}{now Ri:Int}{st0:Nat}{u8 u9 u10 u11 u12 u13:MV}
noncomputable def gQ:fY:=match aR uF.body 5 with
 | .forr _ _ _ q=>q
 |_=> .nil
noncomputable abbrev eW (σ:Nat→UInt8)(W:Nat)(Ri:Int)(st0:Nat)(now:Int)(u8 u9 u10 u11 u12 u13:MV):Loc:=[.ref 0,.int Ri,.int W,.str st0,.bytes (sl σ 0 W),.ref 8,.ref 51,.int now,u8,u9,u10,u11,u12,u13]
theorem IV:iX fun x' y' now'=>cU (ao fns (n+2)) true (aR gQ 0) (eW σ W Ri st0 now u8 u9 u10 u11 u12 u13) (iY (bT x y) r dl z)=
  some (.next,eW σ W Ri st0 now' u8 (.int z.nn) u10 u11 u12 u13,iY (bT x' y') r dl z):=by
 obtain⟨d,x',y',h0,h1,e⟩:=xO (n:=n+1) (b:=true) (x:=x) (y:=y) (r:=r) (dl:=dl) (z:=z) (top:=3) (by decide) (by decide)
 refine⟨x',y',now+d,?_⟩
 exact cN (bH (aa (az (ab rfl) aq pC) (aa (aF (ab rfl) (aB (aa (ab rfl) (aa aq af)) e) rfl) af)) rfl) (aS Dg (aS Df bX))
theorem IW:jM fun x' y' bg F'=>cC (bg≤W) (bg≤nn+2) (z.F.Le F') (cU (ao fns (n+2)) true (aR gQ 1) (eW σ W Ri st0 now u8 (.int nn) u10 u11 u12 u13) (iY (bT x y) r dl z)=
  some (.next,eW σ W Ri st0 now u8 (.int nn) (.int (bg:Nat)) u11 u12 u13,iY (bT x' y') r dl (z.wF F'))):=by
 have mx: ∀H,cu true .max [.int 0,.int ((nn:Int) - 2)] H=some (.int ((nn - 2:Nat):Int),H):=fun H=>by
  show some (MV.int (if(0:Int)<(nn:Int) - 2 then(nn:Int) - 2 else 0),H)=_
  by_cases h:(0:Int)<(nn:Int) - 2
  ·rw[if_pos h,show(nn:Int) - 2=((nn - 2:Nat):Int)from(jw (Int.ofNat_le.mp (Int.le_of_lt (Int.lt_of_sub_pos h)))).symm]
  ·rw[if_neg h,show nn - 2=0 from Nat.sub_eq_zero_of_le (Int.ofNat_le.mp (Int.le_of_sub_nonpos (Int.not_lt.mp h)))];rfl
 obtain⟨v,x',y',hv,e⟩:=sA (n:=n) (b:=true) (x:=x) (y:=y) (r:=r) (dl:=dl) (z:=z)
  (loc:=eW σ W Ri st0 now u8 (.int nn) u10 u11 u12 u13) (es:= .cons (.l 9) (.cons (.l 9) (.cons (.l 9) (.cons (.bin .add (.l 9) (.c (.int 2))) (.cons (.bi .max (.cons (.c (.int 0)) (.cons (.bin .sub (.l 9) (.c (.int 2))) .nil))) (.cons (.c (.int 0)) .nil))))))
  (xs:=[.int nn,.int nn,.int nn,.int ((nn:Int)+2),.int ((nn - 2:Nat):Int),.int 0]) rfl
  (aa (ab rfl) (aa (ab rfl) (aa (ab rfl) (aa (aF (ab rfl) aq rfl) (aa (aP (aa aq (aa (aF (ab rfl) aq rfl) af)) (mx _)) (aa aq af)))))) (Nat.succ_pos _) rfl
 obtain⟨q,rfl,hq⟩: ∃q:Nat,v= .int (q:Int)∧q≤nn+2:=by
  rcases List.mem_cons.mp hv with rfl|hv
  ·exact⟨nn,rfl,Nat.le_add_right _ _⟩
  rcases List.mem_cons.mp hv with rfl|hv
  ·exact⟨nn,rfl,Nat.le_add_right _ _⟩
  rcases List.mem_cons.mp hv with rfl|hv
  ·exact⟨nn,rfl,Nat.le_add_right _ _⟩
  rcases List.mem_cons.mp hv with rfl|hv
  ·exact⟨nn+2,rfl,Nat.le_refl _⟩
  rcases List.mem_cons.mp hv with rfl|hv
  ·exact⟨nn - 2,rfl,Nat.le_trans (Nat.sub_le _ _) (Nat.le_add_right _ _)⟩
  rcases List.mem_cons.mp hv with rfl|hv
  ·exact⟨0,rfl,Nat.zero_le _⟩
  ·cases hv
 have go: ∀bg:Nat,(∀H,cu true .min [.int (q:Int),.int (W:Int)] H=some (.int (bg:Int),H))→cU (ao fns (n+2)) true (aR gQ 1) (eW σ W Ri st0 now u8 (.int nn) u10 u11 u12 u13) (iY (bT x y) r dl z)=
   some (.next,eW σ W Ri st0 now u8 (.int nn) (.int (bg:Nat)) u11 u12 u13,iY (bT x' y') r dl (z.wF _)):=fun bg hm=>aA (aP (aa (aP (aa e af) rfl) (aa (ab rfl) af)) (hm _)) pj
 rcases Nat.lt_or_ge W q with h|h
 ·exact⟨x',y',W,_,Nat.le_refl _,Nat.le_trans (Nat.le_of_lt h) hq,le_app,go W fun H=>congrArg some (by rw[if_pos (Int.ofNat_lt.mpr h)])⟩
 ·exact⟨x',y',q,_,h,hq,le_app,go q fun H=>congrArg some (by rw[if_neg (Int.not_lt.mpr (Int.ofNat_le.mpr h))])⟩
end
section
variable{n r:Nat}{dl x y:Int}{s:MO}{b:Bool}{z:tV}{W m ll bg k:Nat}{uo:Option Int}{hfin:Bool}{σ:Nat→UInt8}{now Ri:Int}{st0:Nat}{u8 u9 u10 u11 u12 u13:MV}
theorem IX(hW:W≤30)(hb:bg≤W):jM fun x' y' k F'=>cC (bg+k≤W) (k≤9) (z.F.Le F') (cU (ao fns (n+2)) true (aR gQ 2) (eW σ W Ri st0 now u8 u9 (.int (bg:Nat)) u11 u12 u13) (iY (bT x y) r dl z)=
  some (.next,eW σ W Ri st0 now u8 u9 (.int (bg:Nat)) (.bytes (sl σ bg k)) u12 u13,iY (bT x' y') r dl (z.wF F'))):=by
 obtain⟨v,x',y',hv,e⟩:=sA (n:=n) (b:=true) (x:=x) (y:=y) (r:=r) (dl:=dl) (z:=z)
  (loc:=eW σ W Ri st0 now u8 u9 (.int (bg:Nat)) u11 u12 u13) (es:= .cons (.c (.int 0)) (.cons (.c (.int 1)) (.cons (.c (.int 3)) (.cons (.c (.int 4)) (.cons (.c (.int 5)) (.cons (.c (.int 9)) .nil))))))
  (xs:=[.int 0,.int 1,.int 3,.int 4,.int 5,.int 9]) rfl rfl (Nat.succ_pos _) rfl
 obtain⟨q,rfl,hq⟩: ∃q:Nat,v= .int (q:Int)∧q≤9:=by
  simp only[List.mem_cons,List.not_mem_nil,or_false]at hv
  rcases hv with rfl|rfl|rfl|rfl|rfl|rfl
  ·exact⟨0,rfl,by decide⟩
  ·exact⟨1,rfl,by decide⟩
  ·exact⟨3,rfl,by decide⟩
  ·exact⟨4,rfl,by decide⟩
  ·exact⟨5,rfl,by decide⟩
  ·exact⟨9,rfl,by decide⟩
 have hs: ∀H,∃k,bx (bg+k≤W) (k≤9) (dX (.bytes (sl σ 0 W)) (.int (bg:Int)) (.int ((bg:Int)+q)) H=some (.bytes (sl σ bg k),H)):=fun H=>by
  have e0:dX (.bytes (sl σ 0 W)) (.int (bg:Int)) (.int ((bg+q:Nat):Int)) H=some (.bytes (((sl σ 0 W).drop bg).take (bg+q - bg)),H):=nL (bM (Nat.le_trans hW (by decide))) (by rw[bq];exact hb) (Nat.le_add_right _ _)
  rw[Nat.add_sub_cancel_left,gF hb,Nat.zero_add]at e0
  rcases Nat.le_total q (W - bg)with h|h
  ·rw[gE h]at e0
   exact⟨q,Nat.add_le_of_le_sub' hb h,hq,e0⟩
  ·rw[List.take_of_length_le (by rw[bq];exact h)]at e0
   exact⟨W - bg,Nat.le_of_eq (Nat.add_sub_of_le hb),Nat.le_trans h hq,e0⟩
 obtain⟨k,h1,h2,h3⟩:=hs (iY (bT x' y') r dl (z.wF (z.F.app [.list [.int 0,.int 1,.int 3,.int 4,.int 5,.int 9]])))
 exact⟨x',y',k,_,h1,h2,le_app,aA (eV (ab rfl) (ab rfl) (aF (ab rfl) e rfl) h3) Hg⟩
theorem IY(hk:k≤100):iX fun x' y' hfin=>(hfin=true→bg+k=W)∧cU (ao fns (n+2)) true (aR gQ 3) (eW σ W Ri st0 now u8 u9 (.int (bg:Nat)) (.bytes (sl σ bg k)) u12 u13) (iY (bT x y) r dl z)=
  some (.next,eW σ W Ri st0 now u8 u9 (.int (bg:Nat)) (.bytes (sl σ bg k)) (.bool hfin) u13,iY (bT x' y') r dl z):=by
 have ln: ∀H,cu true .len [.bytes (sl σ bg k)] H=some (.int k,H):=fun H=>by rw[bc (bM (Nat.le_trans hk (by decide))),bq]
 obtain⟨d,x',y',h0,h1,e⟩:=xO (n:=n+1) (b:=true) (x:=x) (y:=y) (r:=r) (dl:=dl) (z:=z) (top:=2) (by decide) (by decide)
 by_cases h:bg+k=W
 ·have z: ∀H,aI .eq (.int ((bg:Int)+k)) (.int (W:Int)) H=some true:=fun H=>congrArg some (decide_eq_true (rD h))
  exact⟨x',y',decide (d=0),fun _=>h,aA (aZ (au (aF (ab rfl) (aP (aa (ab rfl) af) (ln _)) rfl) (ab rfl) (z _)) (au (aB (aa (ab rfl) (aa aq af)) e) aq rfl)) EL⟩
 ·have z: ∀H,aI .eq (.int ((bg:Int)+k)) (.int (W:Int)) H=some false:=fun H=>congrArg some (decide_eq_false (Bu h))
  exact⟨x,y,false,fun h=>(by cases h),aA (bK (au (aF (ab rfl) (aP (aa (ab rfl) af) (ln _)) rfl) (ab rfl) (z _))) EL⟩
theorem IZ:jM fun x' y' uo F'=>bx ((∀u,uo=some u→0≤u∧u≤6)) (z.F.Le F') (cU (ao fns (n+2)) true (aR gQ 4) (eW σ W Ri st0 now u8 u9 u10 u11 u12 u13) (iY (bT x y) r dl z)=
  some (.next,eW σ W Ri st0 now u8 u9 u10 u11 u12 (bS uo),iY (bT x' y') r dl (z.wF F'))):=by
 obtain⟨v,x',y',hv,e⟩:=sA (n:=n) (b:=true) (x:=x) (y:=y) (r:=r) (dl:=dl) (z:=z)
  (loc:=eW σ W Ri st0 now u8 u9 u10 u11 u12 u13) (es:= .cons (.c .none) (.cons (.c .none) (.cons (.c .none) (.cons (.c (.int 0)) (.cons (.c (.int 2)) (.cons (.c (.int 6)) .nil))))))
  (xs:=[.none,.none,.none,.int 0,.int 2,.int 6]) rfl rfl (Nat.succ_pos _) rfl
 obtain⟨uo,rfl,hq⟩: ∃uo:Option Int,v=bS uo∧ ∀u,uo=some u→0≤u∧u≤6:=by
  simp only[List.mem_cons,List.not_mem_nil,or_false]at hv
  rcases hv with rfl|rfl|rfl|rfl|rfl|rfl
  iterate 3 exact⟨none,rfl,fun _ h=>by cases h⟩
  ·exact⟨some 0,rfl,fun _ h=>by cases h;decide⟩
  ·exact⟨some 2,rfl,fun _ h=>by cases h;decide⟩
  ·exact⟨some 6,rfl,fun _ h=>by cases h;decide⟩
 exact⟨x',y',uo,_,hq,le_app,aA e Hh⟩
end
section
variable{n r:Nat}{dl x y:Int}{z:tV}{W m ll bg k:Nat}{uo:Option Int}{hfin:Bool}{σ:Nat→UInt8}{now Ri:Int}{st0:Nat}{u8 u9 u10 u11 u12 u13:MV}
theorem I0 {H H':HH}(h:ao fns n true 1273 [.ref 8,.ref 51,.int bg,.bytes (sl σ bg k),.bool hfin,bS uo,.int now] H=some (.bool true,H')):
  cU (ao fns n) true (aR gQ 5) (eW σ W Ri st0 now u8 u9 (.int (bg:Nat)) (.bytes (sl σ bg k)) (.bool hfin) (bS uo)) H=some (.next,eW σ W Ri st0 now u8 u9 (.int (bg:Nat)) (.bytes (sl σ bg k)) (.bool hfin) (bS uo),H'):=by
 have gu:bU [bS uo] 0=some (bS uo):=by cases uo<;>rfl
 exact aC (df (aB (aa (ab rfl) (aa (ab rfl) (aa (ab rfl) (aa (ab rfl) (aa (ab rfl) (aa (ab gu) (aa (ab rfl) af))))))) h)) ar
theorem I2 (hW:W≤30)(i:jt σ W m ll (.ofNat (r+1)) z):iX fun x' y' z'=>jt σ W m ll (.ofNat (r+1)) z'∧
  cU (ao fns (n+2)) true (aR gQ 6) (eW σ W Ri st0 now u8 u9 u10 u11 u12 u13) (iY (bT x y) r dl z)=some (.next,eW σ W Ri st0 now u8 u9 u10 u11 u12 u13,iY (bT x' y') r dl z'):=by
 obtain⟨v,x',y',hv,e⟩:=sA (n:=n) (b:=true) (x:=x) (y:=y) (r:=r) (dl:=dl) (z:=z)
  (loc:=eW σ W Ri st0 now u8 u9 u10 u11 u12 u13) (es:= .cons (.c (.int 0)) (.cons (.c (.int 0)) (.cons (.c (.int 1)) (.cons (.c (.int 5)) (.cons (.c (.int 9)) .nil)))))
  (xs:=[.int 0,.int 0,.int 1,.int 5,.int 9]) rfl rfl (Nat.succ_pos _) rfl
 obtain⟨q,rfl,hq⟩: ∃q:Nat,v= .int (q:Int)∧q≤9:=by
  simp only[List.mem_cons,List.not_mem_nil,or_false]at hv
  rcases hv with rfl|rfl|rfl|rfl|rfl
  ·exact⟨0,rfl,by decide⟩
  ·exact⟨0,rfl,by decide⟩
  ·exact⟨1,rfl,by decide⟩
  ·exact⟨5,rfl,by decide⟩
  ·exact⟨9,rfl,by decide⟩
 obtain⟨rd',ry',F',j,e2⟩:=rk (n:=n) (b:=true) (s:=bT x' y') (dl:=dl) hW hq (i.le (le_app (L:=[.list [.int 0,.int 0,.int 1,.int 5,.int 9]])))
 exact⟨x',y',⟨z.st,z.a,z.wh,z.nn,z.ED,z.fin,z.over,z.urg,ry',z.pr,z.L,rd',z.wait,F',z.P⟩,j,aC (df (aB (aa (ab rfl) (aa (ab rfl) (aa (ab rfl) (aa e af)))) e2)) ar⟩
end
section
variable{n r:Nat}{dl x y:Int}{z:tV}{W m ll:Nat}{σ:Nat→UInt8}{now Ri:Int}{st0:Nat}{u8 u9 u10 u11 u12 u13:MV}
theorem C9 {s:MO}{bg k:Nat}{uo:Option Int}{hfin:Bool}(hR:256≤Int.ofNat (r+1))(hW:W≤30)(hm:m+1≤1000)(hll:ll≤100)(i:jt σ W m ll (.ofNat (r+1)) z)(b1:bg≤W)(b2:bg≤z.nn+2)(k1:bg+k≤W)(f1:hfin=true→bg+k=W)(q1: ∀u,uo=some u→0≤u∧u≤6):
  ∃z',jt σ W (m+2) (ll+k) (.ofNat (r+1)) z'∧ao fns (n+12) true 1273 [.ref 8,.ref 51,.int bg,.bytes (sl σ bg k),.bool hfin,bS uo,.int now] (iY s r dl z)=some (.bool true,iY s r dl z'):=by
 obtain⟨st',a',wh',nn',ED',fin',over',urg',ry',pr',L',wait',F',P',j,e⟩:=xP (n:=n) (dl:=dl) (s:=s) (now:=now) hR hW hm hll i b1 b2 k1 f1 q1
 exact⟨⟨st',a',wh',nn',ED',fin',over',urg',ry',pr',L',z.rd,wait',F',P'⟩,j,e⟩
theorem turn(hR:256≤Int.ofNat (r+1))(hW:W≤30)(hm:m+1≤1000)(hll:ll≤100)(i:jt σ W m ll (.ofNat (r+1)) z):
  HU fun x' y' z' now' v9 v10 v11 v12 v13=>jt σ W (m+2) (ll+9) (.ofNat (r+1)) z'∧
   bQ (ao fns (n+12)) true gQ (eW σ W Ri st0 now u8 u9 u10 u11 u12 u13) (iY (bT x y) r dl z)=some (.next,eW σ W Ri st0 now' u8 v9 v10 v11 v12 v13,iY (bT x' y') r dl z'):=by
 obtain⟨x1,y1,now1,e0⟩:=IV (n:=n+10) (x:=x) (y:=y) (r:=r) (dl:=dl) (z:=z) (σ:=σ) (W:=W) (Ri:=Ri) (st0:=st0) (now:=now) (u8:=u8) (u9:=u9) (u10:=u10) (u11:=u11) (u12:=u12) (u13:=u13)
 obtain⟨x2,y2,bg,F1,b1,b2,l1,e1⟩:=IW (n:=n+10) (x:=x1) (y:=y1) (r:=r) (dl:=dl) (z:=z) (nn:=z.nn) (σ:=σ) (W:=W) (Ri:=Ri) (st0:=st0) (now:=now1) (u8:=u8) (u10:=u10) (u11:=u11) (u12:=u12) (u13:=u13)
 obtain⟨x3,y3,k,F2,k1,k2,l2,e2⟩:=IX (n:=n+10) (x:=x2) (y:=y2) (r:=r) (dl:=dl) (z:=z.wF F1) (σ:=σ) (W:=W) (Ri:=Ri) (st0:=st0) (now:=now1) (u8:=u8) (u9:= .int z.nn) (u11:=u11) (u12:=u12) (u13:=u13) hW b1
 obtain⟨x4,y4,hfin,f1,e3⟩:=IY (n:=n+10) (x:=x3) (y:=y3) (r:=r) (dl:=dl) (z:=z.wF F2) (σ:=σ) (W:=W) (Ri:=Ri) (st0:=st0) (now:=now1) (u8:=u8) (u9:= .int z.nn) (bg:=bg) (k:=k) (u12:=u12) (u13:=u13) (Nat.le_trans k2 (by decide))
 obtain⟨x5,y5,uo,F3,q1,l3,e4⟩:=IZ (n:=n+10) (x:=x4) (y:=y4) (r:=r) (dl:=dl) (z:=z.wF F2) (σ:=σ) (W:=W) (Ri:=Ri) (st0:=st0) (now:=now1) (u8:=u8) (u9:= .int z.nn) (u10:= .int (bg:Nat)) (u11:= .bytes (sl σ bg k)) (u12:= .bool hfin) (u13:=u13)
 obtain⟨z2,j,e5⟩:=C9 (n:=n) (dl:=dl) (s:=bT x5 y5) (now:=now1) hR hW hm hll (i.le ((l1.trans l2).trans l3)) b1 b2 k1 f1 q1
 obtain⟨x6,y6,z3,j2,e6⟩:=I2 (n:=n+10) (x:=x5) (y:=y5) (dl:=dl) (Ri:=Ri) (st0:=st0) (now:=now1) (u8:=u8) (u9:= .int z.nn) (u10:= .int (bg:Nat)) (u11:= .bytes (sl σ bg k)) (u12:= .bool hfin) (u13:=bS uo) hW j
 exact⟨x6,y6,z3,now1,_,_,_,_,_,j2.more (Nat.add_le_add_left k2 ll),ae e0 (ae e1 (ae e2 (ae e3 (ae e4 (ae (I0 e5) (ae e6 ar))))))⟩
end
section
variable{n r:Nat}{dl:Int}{W:Nat}{σ:Nat→UInt8}{Ri:Int}{st0:Nat}{u9 u10 u11 u12 u13:MV}
theorem xQ{H:HH}{T j:Nat}(hT:T≤9)(hj:j<T):itemAt H (.rng 0 (T:Int)) j=some (some (.int (0+j))):=by
 show(if decide ((0:Int).natAbs<2 ^ 40)&&decide ((T:Int).natAbs<2 ^ 40)then some (if(0:Int)+j<T then some (MV.int (0+j))else none)else none)=_
 rw[if_pos (by rw[decide_eq_true (by decide),decide_eq_true (by omega)];rfl),if_pos (by omega)]
theorem p7 {H:HH}{T:Nat}(hT:T≤9):itemAt H (.rng 0 (T:Int)) T=some none:=by
 show(if decide ((0:Int).natAbs<2 ^ 40)&&decide ((T:Int).natAbs<2 ^ 40)then some (if(0:Int)+T<T then some (MV.int (0+T))else none)else none)=_
 rw[if_pos (by rw[decide_eq_true (by decide),decide_eq_true (by omega)];rfl),if_neg (by omega)]
theorem turns(hR:256≤Int.ofNat (r+1))(hW:W≤30){T:Nat}(hT:T≤9): ∀k j:Nat,j≤T→T<j+k→ ∀{x y now u8 u9 u10 u11 u12 u13}{z:tV},jt σ W (2*j) (9*j) (.ofNat (r+1)) z→
  dk fun loc' H'=>ek (eI [8] true) (fun l h=>bQ (ao fns (n+12)) true gQ l h) (.rng 0 (T:Int)) k j (eW σ W Ri st0 now u8 u9 u10 u11 u12 u13) (iY (bT x y) r dl z)=some (.next,loc',H'):=by
 intro k
 induction k with
 |zero=>intro j h1 h2;exact absurd (Nat.lt_of_lt_of_le h2 h1) (Nat.lt_irrefl _)
 |succ k ih=>
  intro j h1 h2 x y now u8 u9 u10 u11 u12 u13 z i
  rcases Nat.eq_or_lt_of_le h1 with h|h
  ·rw[h]
   exact⟨_,_,cg (p7 hT)⟩
  ·obtain⟨x',y',z',now',v9,v10,v11,v12,v13,i',e⟩:=turn (n:=n) (dl:=dl) (x:=x) (y:=y) (Ri:=Ri) (st0:=st0) (now:=now) (u8:= .int (0+j)) (u9:=u9) (u10:=u10) (u11:=u11) (u12:=u12) (u13:=u13) hR hW (by omega) (by omega) i
   obtain⟨loc',H',e2⟩:=ih (j+1) h (by omega) (x:=x') (y:=y') (now:=now') (u8:= .int (0+j)) (u9:=v9) (u10:=v10) (u11:=v11) (u12:=v12) (u13:=v13) i'
   exact⟨loc',H',bR (xQ hT h) rfl e e2⟩
end
section
variable{n:Nat}{x y:Int}
theorem FV{zs:List MV}(hz: ∀v∈zs,∃i,v= .int i)(h:zs.length≤63):dk fun x y=>ao fns (n+1) true 1214 [.frz zs,.int 0] []=some (.ref 0,[bT x y]):=by
 have ml: ∀{H:HH}{z:Int}{c:Bool},cI .mul (.int z) (.int (if c then 1 else 0)) H=some (.int (z*(if c then 1 else 0)),H):=fun{H z c}=>by cases c<;>exact lE (by decide)
 have m2: ∀{H:HH}{z:Int},cI .mul (.int z) (.int 48271) H=some (.int (z*48271),H):=fun{H z}=>lE (by decide)
 have m3: ∀{H:HH}{z:Int},cI .mul (.int z) (.int 0) H=some (.int (z*0),H):=fun{H z}=>lE (by decide)
 have f2: ∀{H:HH}{z:Int},cI .fmod (.int z) (.int 2147483629) H=some (.int (z.fmod 2147483629),H):=fun{H z}=>dO (by decide)
 have f3: ∀{H:HH}{z:Int},cI .fmod (.int z) (.int 2147483647) H=some (.int (z.fmod 2147483647),H):=fun{H z}=>dO (by decide)
 have pw: ∀{H:HH},cI .pow (.int 10) (.int 18) H=some (.int 1000000000000000000,H):=fun{H}=>by
  show(if Nat.blt 10 100&&Nat.blt 18 100 then some (MV.int (Int.pow (.ofNat 10) 18),H)else none)=_
  rw[if_pos (by decide)]
  congr 2
 have ii: ∀{H:HH}{v:Int},cu true .int [.int v] H=some (.int v,H):=rfl
 have ib: ∀{H:HH}{v:Bool},cu true .int [.bool v] H=some (.int (if v then 1 else 0),H):=rfl
 have ge: ∀{H:HH}{x y:Int},aI .ge (.int x) (.int y) H=some (decide (y≤x)):=rfl
 have st1: ∃c:Int,cU (ao fns n) true (aR uA.body 1) [.frz zs,.int 0,.int 0,.unb,.unb] []=some (.next,[.frz zs,.int 0,.int c,.unb,.unb],[]):=by
  cases zs with
  |nil=>exact⟨0,rfl⟩
  |cons v r=>
   obtain⟨i,rfl⟩:=hz v List.mem_cons_self
   have ln: ∀{H:HH},cu true .len [.frz (.int i::r)] H=some (.int ((r.length+1:Nat):Int),H):=fun{H}=>by
    show(if Nat.ble (r.length+1) 1000000=true then some (MV.int ((r.length+1:Nat):Int),H)else none)=_
    rw[if_pos (Nat.ble_eq_true_of_le (by have:=h;rw[List.length_cons]at this;exact Nat.le_trans this (by decide)))]
   have lt: ∀{H:HH},aI .lt (.int 0) (.int ((r.length+1:Nat):Int)) H=some true:=fun{H}=>congrArg some (decide_eq_true (mZ))
   have sb: ∀{H:HH},bN (.frz (.int i::r)) (.int 0) H=some (.int i):=fun{H}=>by
    show n3 (.int i::r) (.int 0)=_
    unfold n3
    dsimp only
    have e:cJ (MV.int i::r).length 0=some 0:=by
     unfold cJ
     rw[if_pos (by decide),if_pos (by decide),if_pos (by rw[List.length_cons];exact mZ)]
     rfl
    rw[e]
    rfl
   exact⟨i,aK (au (ab rfl) (aP (aa (ab rfl) af) ln) lt) (ae (aA (az (ab rfl) (ab rfl) sb) nD) ar)⟩
 obtain⟨c,st1⟩:=st1
 refine⟨_,_,aw (F:=uA) (loc:=[.frz zs,.int 0,.unb,.unb,.unb]) rfl rfl rfl rfl (ae (aA aq nD) (ae st1 (ae (aA (aP (aa (aP (aa (ab rfl) af) ii) (aa (aP (aa (aF (nC aq) (ab rfl) rfl) af) ii) af)) rfl) ph)
  (ae (aA (aF (aP (aa (aF (aF (aF (aF (aF (aP (aa (ab rfl) af) ii) aq f2) (aF (aF aq (ab rfl) m3) (ab rfl) m3) rfl) (aF aq (ab rfl) m3) rfl) aq rfl) aq m2) af) ii) aq f3) ik)
   (aM (g8 (aa (aF (ab rfl) (aP (aa (au (ab rfl) (aF aq aq pw) ge) af) ib) ml) (aa (ab rfl) af)) rfl))))))⟩
noncomputable def ups(i:Nat):UInt8:=UInt8.ofNat (i+1)
theorem Dc: ∀{W a:Nat},dD (a+1) W=sl ups a W:=by
 intro W
 induction W with
 |zero=>intro a;rfl
 |succ W ih=>intro a;show UInt8.ofNat (a+1)::dD (a+1+1) W=ups a::sl ups (a+1) W;rw[ih];rfl
theorem xR{v:MV}(h:v∈[MV.int 256,.int 4294967296]): ∃r:Nat,bx (v= .int (Int.ofNat (r+1))) (256≤Int.ofNat (r+1)) (∀{n:Nat}{s:MO}{st:Nat}{dl:Int},ao fns (n+12) true 1235 [v,.str st,.int dl] (zU s)=some (.ref 52,zV s r dl st)):=by
 rcases List.mem_cons.mp h with rfl|h
 ·exact⟨255,rfl,by decide,zW⟩
 rcases List.mem_cons.mp h with rfl|h
 ·exact⟨4294967295,rfl,by decide,zX⟩
 ·cases h
theorem tW{v:MV}(h:v∈[MV.int 3,.int 9,.int 15,.int 16,.int 22]): ∃W:Nat,v= .int W∧W≤30:=by
 simp only[List.mem_cons,List.not_mem_nil,or_false]at h
 rcases h with rfl|rfl|rfl|rfl|rfl
 ·exact⟨3,rfl,by decide⟩
 ·exact⟨9,rfl,by decide⟩
 ·exact⟨15,rfl,by decide⟩
 ·exact⟨16,rfl,by decide⟩
 ·exact⟨22,rfl,by decide⟩
theorem tX{v:MV}(h:v∈[MV.str 183,.str 183,.str 184,.str 185,.str 186,.str 189]): ∃st:Nat,v= .str st∧qW st:=by
 simp only[List.mem_cons,List.not_mem_nil,or_false]at h
 rcases h with rfl|rfl|rfl|rfl|rfl|rfl
 ·exact⟨183,rfl,.inl rfl⟩
 ·exact⟨183,rfl,.inl rfl⟩
 ·exact⟨184,rfl,.inr (.inl rfl)⟩
 ·exact⟨185,rfl,.inr (.inr (.inl rfl))⟩
 ·exact⟨186,rfl,.inr (.inr (.inr (.inl rfl)))⟩
 ·exact⟨189,rfl,.inr (.inr (.inr (.inr (.inr rfl))))⟩
theorem tY{v:MV}(h:v∈[MV.int 0,.int 2,.int 3]): ∃dl:Int,v= .int dl:=by
 simp only[List.mem_cons,List.not_mem_nil,or_false]at h
 rcases h with rfl|rfl|rfl
 ·exact⟨0,rfl⟩
 ·exact⟨2,rfl⟩
 ·exact⟨3,rfl⟩
theorem FW: ∃H',ao fns (n+13) true 1287 [.ref 0] [bT x y]=some (.bool true,H'):=by
 obtain⟨v1,x1,y1,h1,e1⟩:=p6 (n:=n+10) (b:=true) (H:=[bT x y,.list [.int 256,.int 4294967296]]) (x:=x) (y:=y) (i:=1) (xs:=[.int 256,.int 4294967296]) rfl rfl (by decide) (by decide) (by decide)
 obtain⟨v2,x2,y2,h2,e2⟩:=p6 (n:=n+10) (b:=true) (H:=[bT x1 y1,.list [.int 256,.int 4294967296],.list [.int 3,.int 9,.int 15,.int 16,.int 22]]) (x:=x1) (y:=y1) (i:=2) (xs:=[.int 3,.int 9,.int 15,.int 16,.int 22]) rfl rfl (by decide) (by decide) (by decide)
 obtain⟨v3,x3,y3,h3,e3⟩:=p6 (n:=n+10) (b:=true) (H:=[bT x2 y2,.list [.int 256,.int 4294967296],.list [.int 3,.int 9,.int 15,.int 16,.int 22],.list [.str 183,.str 183,.str 184,.str 185,.str 186,.str 189]]) (x:=x2) (y:=y2) (i:=3) (xs:=[.str 183,.str 183,.str 184,.str 185,.str 186,.str 189]) rfl rfl (by decide) (by decide) (by decide)
 obtain⟨v4,x4,y4,h4,e4⟩:=p6 (n:=n+10) (b:=true) (H:=zU (bT x3 y3)) (x:=x3) (y:=y3) (i:=4) (xs:=[.int 0,.int 2,.int 3]) rfl rfl (by decide) (by decide) (by decide)
 obtain⟨r,rfl,hR,eb⟩:=xR h1
 obtain⟨W,rfl,hW⟩:=tW h2
 obtain⟨st,rfl,hst⟩:=tX h3
 obtain⟨dl,rfl⟩:=tY h4
 obtain⟨d,x5,y5,k1,k2,e5⟩:=xN (n:=n+11) (b:=true) (H:=zV (bT x4 y4) r dl st) (x:=x4) (y:=y4) (top:=7) rfl (by decide) (by decide)
 obtain⟨T,rfl⟩: ∃T:Nat,d=(T:Int):=⟨d.toNat,(Int.toNat_of_nonneg k1).symm⟩
 have pw: ∀{H:HH},cI .pow (.int 2) (.int 32) H=some (.int 4294967296,H):=fun{H}=>by
  show(if Nat.blt 2 100&&Nat.blt 32 100 then some (MV.int (Int.pow (.ofNat 2) 32),H)else none)=_
  rw[if_pos (by decide)]
  congr 2
 have rg: ∀{H:HH},cu true .range [.int 1,.int ((W:Int)+1)] H=some (.rng 1 ((W:Int)+1),H):=fun{H}=>by
  show gz 1 ((W:Int)+1) H=_
  unfold gz
  rw[if_pos (by rw[decide_eq_true (by decide),decide_eq_true (Nat.lt_of_le_of_lt (Nat.succ_le_succ hW) (by decide):((W:Int)+1).natAbs<2 ^ 40)];rfl)]
 have bt: ∀{H:HH},cu true .bytes [.rng 1 ((W:Int)+1)] H=some (.bytes (sl ups 0 W),H):=fun{H}=>by
  have e:fA (.rng 1 ((W:Int)+1)) H=some (dD 1 W):=by
   show(if Nat.ble 1 (W+1)&&Nat.ble (W+1) 256 then some (dD 1 (W+1 - 1))else none)=_
   rw[if_pos (by rw[Nat.ble_eq_true_of_le (Nat.le_add_left 1 W),Nat.ble_eq_true_of_le (Nat.le_trans (Nat.succ_le_succ hW) (by decide))];rfl)]
   rfl
  show(match fA (.rng 1 ((W:Int)+1)) H with|some b=>_|none=>none)=_
  rw[e,Dc]
 have rt: ∀{H:HH},cu true .range [.int (3+(T:Int))] H=some (.rng 0 ((3+T:Nat):Int),H):=fun{H}=>by
  show gz 0 (3+(T:Int)) H=_
  unfold gz
  rw[if_pos (by rw[decide_eq_true (by decide),decide_eq_true (by omega)];rfl)]
  rfl
 obtain⟨loc',H',e6⟩:=turns (n:=n) (dl:=dl) (W:=W) (σ:=ups) (Ri:=Int.ofNat (r+1)) (st0:=st) hR hW (T:=3+T) (by omega) 64 0 (Nat.zero_le _) (by omega) (x:=x5) (y:=y5) (now:=1) (u8:= .unb) (u9:= .unb) (u10:= .unb) (u11:= .unb) (u12:= .unb) (u13:= .unb) (z:=⟨st,⟨0,none,false⟩,⟨none,none,false,fun _=>[],0⟩,0,16,none,false,none,46,49,[],0,none,⟨.barr [],.list [],[]⟩,none⟩) (HT hst)
 exact⟨H',aw (F:=uF) (loc:=[.ref 0,.unb,.unb,.unb,.unb,.unb,.unb,.unb,.unb,.unb,.unb,.unb,.unb,.unb]) rfl rfl rfl rfl
  (ae (cN (bH (aa (aB (aa (ab rfl) (aa (g8 (aa aq (aa (aF aq aq pw) af)) rfl) af)) e1) (aa (aB (aa (ab rfl) (aa (g8 rfl rfl) af)) e2) af)) rfl) (aS tL (aS nD bX)))
  (ae (aA (aB (aa (ab rfl) (aa (g8 rfl rfl) af)) e3) ph)
  (ae (aA (aP (aa (aP (aa aq (aa (aF (ab rfl) aq rfl) af)) rg) af) bt) ik)
  (ae (za (aB (aa (ab rfl) (aa (ab rfl) (aa (aB (aa (ab rfl) (aa (g8 rfl rfl) af)) e4) af))) eb) rfl (aS t6 (aS xU bX)))
  (ae (aA aq Df)
  (ae (eE (aP (aa (aF aq (aB (aa (ab rfl) (aa aq af)) e5) rfl) af) rt) e6)
  (aM aq)))))))⟩
end
theorem FX{n:Nat}{zs:List MV}(hz: ∀v∈zs,∃i,v= .int i)(h:zs.length≤63): ∃H',ao fns (n+41) true 1301 [.frz zs] []=some (.bool true,H'):=by
 obtain⟨x,y,e1⟩:=FV (n:=n+39) hz h
 obtain⟨H',e2⟩:=FW (n:=n+27) (x:=x) (y:=y)
 exact⟨H',aw (F:=uG) (loc:=[.frz zs]) rfl rfl rfl rfl (aM (aZ (aB (aa (aB (aa (ab rfl) (aa aq af)) e1) af) e2) (aB af E1)))⟩
end Mine.Internal.Q
end
section
open PySem PySem.W PySem.Calls PyProof.Rows
namespace Mine.Internal
theorem sC{R:WRecords}{cl:Str→Option Addr}{h base:Heap}{ρ:Nat→Addr}{N:Nat}{news:Led}: ∀(ns:List Int)(vs:List Value)(as:List Addr),ReadsAllW R cl h vs (ns.map .int) as→br base ρ N news (ns.map .int) vs∧vs.length=ns.length
 |[],vs,as,r=>by cases r;exact⟨.nil,rfl⟩
 |k::ns,vs,as,r=>by
  cases r with
  |cons r1 r2=>
   cases r1
   obtain⟨a,b⟩:=sC ns _ _ r2
   exact⟨.cons (.int _ _) a,congrArg Nat.succ b⟩
theorem xS{args:List WData}(h:PySem.Challenge.rw_on0350_01.row.claim.pre args=true): ∃ns:List Int,args=[.list (ns.map .int)]∧ns.length≤63:=by
 obtain⟨h1,h2⟩:=Bool.and_eq_true_iff.mp (show(WShape.hasAll [] args [.list .int]&&_)=true from h)
 cases args with
 |nil=>cases h1
 |cons d r=>
  obtain⟨h3,h4⟩:=Bool.and_eq_true_iff.mp (show(WShape.has [] d (.list .int)&&WShape.hasAll [] r [])=true from h1)
  cases r with
  |cons _ _=>cases h4
  |nil=>
   obtain⟨xs,rfl,hi⟩:=hasW_list h3
   obtain⟨ns,rfl⟩:=items_int hi
   refine⟨ns,rfl,?_⟩
   have h2:WTm.holds [] (.and (.not (.lt (.lit (.int 63)) (.len (.arg 0)))) (.lit (.bool true))) {args:=[.list (ns.map .int)]}=true:=h2
   rcases Nat.lt_or_ge 63 ns.length with q|q
   ·have e:less? (WData.int 63) (WData.int ((ns.map WData.int).length:Nat))=some true:=by
     show some (decide ((63:Int)<_))=some true
     rw[List.length_map,decide_eq_true (by omega)]
    have e2:WTm.holds [] (.and (.not (.lt (.lit (.int 63)) (.len (.arg 0)))) (.lit (.bool true))) {args:=[.list (ns.map .int)]}=false:=by
     simp only[WTm.holds,WTm.value,List.getElem?_cons_zero,e,Option.map_some,Bool.not_true]
    rw[e2]at h2
    cases h2
   ·exact q
theorem zY(args:List WData):PySem.Challenge.rw_on0350_01.row.claim.post args (.bool true) args=true:=by kernel_rfl
theorem xT{h:Heap}{mg:Str→Option Value}{a:Addr}(x:Left h)(hn:h.NoLimit)(g:h.Ns mainGlobals mg)(e:mg "law" =some (.ref a)):a=1301:=by
 obtain⟨mg',g1,g2,_⟩:=(rP x hn).glob
 obtain⟨V,hV,hg⟩:=g2 "law" (.fn 1301) (by decide+kernel)
 rw[g.agree g1]at e
 rw[hV]at e
 have e:=Option.some.inj e
 cases hg with
 |fn f=>cases e;rfl
theorem walk(d:DefRec)(hd:d.name= "law"):An qv gU (XL qv []) hook.says PySem.Challenge.rw_on0350_01.row.toRowW d:=by
 intro w s₀ s₁ mg mb G Y a ha hg args vals as hp hl hr
 have x:=tJ Y
 have hn:=G.T.nolimit
 rw[hd]at ha
 obtain rfl:=xT x hn G.T.g ha
 have B:=rP x hn
 obtain⟨ns,rfl,hns⟩:=xS hp
 cases hr with
 |cons r1 r2=>
  cases r2
  obtain⟨l,o,its,n,ai,rfl,ho,hcl,hdt,hra,_⟩:=readsW_list_open r1
  have hv:=sC (base:=s₁.heap) (ρ:=fun _=>0) (N:=0) (news:=[]) ns _ _ hra
  obtain⟨H',e⟩:=Q.FX (n:=0) (zs:=ns.map .int) (fun v hv=>by
   obtain⟨i,_,rfl⟩:=List.mem_map.mp hv
   exact⟨i,rfl⟩) (by rw[List.length_map];exact hns)
  have hp:pw=PySem.Challenge.rw_on0350_01.row.prog:=by unfold pw;rfl
  show wpP true (model PySem.Challenge.rw_on0350_01.row.prog w) callerA _ _ _
  rw[←hp]
  refine da (call_top (w:=w) (A:=callerA) (n:=40) (f:=1301) (args:=[.frz (ns.map .int)]) (F:=uG) B (k9 B (qJ B) 40) ⟨rfl,rfl,by decide,by decide⟩ rfl e (.cons (.frz ⟨o,ho,hcl,n,by rw[hdt]⟩ hv.1) .nil) fun ρ' N news' V h' tk k hV=> ?_)
  rw[show V= .bool true from hV.inv]
  refine⟨⟨.inl ⟨_,.bool true,[],rfl,fun _=>rfl,.bool _,zY _,fun _=>⟨List.nodup_nil,fun _ h=>nomatch h⟩⟩,.of_keep k,rfl,AllBare.of_eq hg⟩,hg⟩
end Mine.Internal
end
section
open PySem PySem.W PySem.Calls PyProof.Rows
namespace Mine.Internal
theorem FY: ∀w:World,(fencedOpening treeTable pv w 9000).map (fun s=>(s.heap,s.gens,s.drawn,s.toks))=some (boot_heap w.params,#[],boot_drawn,boot_toks):=
 boot_open (p:=pv) (N:=9000) rfl rfl (fun s=>rfl)
theorem FZ:LeftO pv qv gU F9 hook.obs hook.val 9000:=pg (H:=fun w=>boot_heap w.params) FY GL GN rfl
theorem T:PySem.Challenge.rw_on0350_01.Holds:=by
 refine⟨DK,?_⟩
 refine o8 (r:=PySem.Challenge.rw_on0350_01.row) (q:=qv) (loose:=gU) (Xt:=F9) (XP:=XL qv []) (Yf:=hook.obs) (Ya:=hook.val) (YP:=hook.says) (N:=9000) FZ hook.of hook.keeps
  (fun s e=>xl_of s (Bool.and_eq_true_iff.mp e).1) XL.keeps (by rfl) (by rfl) (by rfl) (fun s e=>recFacts_of (Bool.and_eq_true_iff.mp e).2) (by rfl) (row_said DK) (by decide+kernel) ⟨rfl,rfl,rfl,rfl,rfl,by decide+kernel⟩ ?hw ?hc
 case hw=>w_witness2
 case hc=>exact walk _ rfl
end Mine.Internal
end
theorem PySem.Challenge.cw_on0350_01_holds : PySem.Challenge.rw_on0350_01.Holds := by
 exact Mine.Internal.T
